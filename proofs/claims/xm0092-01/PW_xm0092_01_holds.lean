import PyProof.Rows.All
import Wide.All
import OpenK.AllK
import Wide.FinOn
import PySem.Challenge.RW_xm0092_01
set_option Elab.async false
set_option linter.unusedSimpArgs false
set_option linter.unusedVariables false
set_option bootstrap.genMatcherCode false
set_option genSizeOf false
section
open PySem PySem.W PyProof.Rows
namespace Mine
theorem len1 {α : Type} {l : List α} (h : l.length = 1) : ∃ a,l = [a] := by
  match l,h with
  | [a],_ => exact ⟨a,rfl⟩
theorem len2 {α : Type} {l : List α} (h : l.length = 2) : ∃ a b,l = [a,b] := by
  match l,h with
  | [a,b],_ => exact ⟨a,b,rfl⟩
theorem len3 {α : Type} {l : List α} (h : l.length = 3) : ∃ a b c,l = [a,b,c] := by
  match l,h with
  | [a,b,c],_ => exact ⟨a,b,c,rfl⟩
theorem len4 {α : Type} {l : List α} (h : l.length = 4) : ∃ a b c d,l = [a,b,c,d] := by
  match l,h with
  | [a,b,c,d],_ => exact ⟨a,b,c,d,rfl⟩
inductive PV where
  | none
  | bool (b : Bool)
  | int (i : Int)
  | str (s : Str)
  | list (xs : List PV)
  | tup (xs : List PV)
  | setn (n : Nat)
  | addr (a : Nat)
inductive Slot where
  | unset
  | val (x : PV)
  | own (xs : List PV)
noncomputable abbrev Sl := List Slot
noncomputable abbrev Den := Sl → Option PV
noncomputable abbrev TDen := Sl → Option Bool
noncomputable abbrev IDen := Sl → Option (List PV)
inductive Out where
  | next (σ : Sl)
  | ret (v : PV)
noncomputable abbrev SDen := Sl → Option Out
noncomputable def lenMax : Nat := 1000000
noncomputable def smB (a : Int) : Bool := Nat.ble a.natAbs.log2 1000000
noncomputable def addV : PV → PV → Option PV
  | .int a,.int b => some (.int (a + b))
  | .list xs,.list ys => if xs.length + ys.length ≤ lenMax then some (.list (xs ++ ys)) else none
  | _,_ => none
noncomputable def subV : PV → PV → Option PV
  | .int a,.int b => some (.int (a - b))
  | .bool a,.bool b => some (.int ((if a then 1 else 0) - (if b then 1 else 0)))
  | _,_ => none
noncomputable def addI : PV → PV → Option PV
  | .int a,.int b => some (.int (a + b))
  | _,_ => none
noncomputable def subI : PV → PV → Option PV
  | .int a,.int b => some (.int (a - b))
  | _,_ => none
noncomputable def mulV : PV → PV → Option PV
  | .int a,.int b => if smB a && smB b then some (.int (a * b)) else none
  | .list [x],.int k => if k.natAbs ≤ lenMax then some (.list (List.replicate k.toNat x)) else none
  | _,_ => none
noncomputable def fdivV : PV → PV → Option PV
  | .int a,.int b => if b = 0 then none else some (.int (a.fdiv b))
  | _,_ => none
noncomputable def modV : PV → PV → Option PV
  | .int a,.int b => if b = 0 then none else some (.int (a.fmod b))
  | _,_ => none
noncomputable def powV : PV → PV → Option PV
  | .int a,.int n => if 0 ≤ n ∧ n ≤ 1000 ∧ a.natAbs.log2 ≤ 100000 then some (.int (a ^ n.toNat)) else none
  | _,_ => none
noncomputable def negV : PV → Option PV
  | .int a => some (.int (-a))
  | _ => none
noncomputable def absV : PV → Option PV
  | .int a => some (.int (if a < 0 then -a else a))
  | _ => none
noncomputable def lenV : PV → Option PV
  | .list xs => some (.int xs.length)
  | .tup xs => some (.int xs.length)
  | .setn n => some (.int n)
  | _ => none
noncomputable def intsOf : List PV → Option (List Int)
  | [] => some []
  | .int a :: r => (intsOf r).map (a :: ·)
  | _ => none
noncomputable def eqV : PV → PV → Option Bool
  | .int a,.int b => some (a == b)
  | .list xs,.list ys => match intsOf xs,intsOf ys with
    | some a,some b => some (decide (a = b))
    | _,_ => none
  | .str a,.str b => some (a == b)
  | _,_ => none
noncomputable def neV (a b : PV) : Option Bool := (eqV a b).map (! ·)
noncomputable def ltV : PV → PV → Option Bool
  | .int a,.int b => some (decide (a < b))
  | _,_ => none
noncomputable def leV : PV → PV → Option Bool
  | .int a,.int b => some (decide (a ≤ b))
  | _,_ => none
noncomputable def gtV : PV → PV → Option Bool
  | .int a,.int b => some (decide (a > b))
  | _,_ => none
noncomputable def geV : PV → PV → Option Bool
  | .int a,.int b => some (decide (a ≥ b))
  | _,_ => none
noncomputable def idxL (xs : List PV) (k : Int) : Option PV :=
  if 0 ≤ k then xs[k.toNat]? else if -(xs.length : Int) ≤ k then xs[(k + xs.length).toNat]? else none
noncomputable def idxV : PV → PV → Option PV
  | .list xs,.int k => idxL xs k
  | .tup xs,.int k => idxL xs k
  | _,_ => none
noncomputable def seqV : PV → Option (List PV)
  | .list xs => some xs
  | .tup xs => some xs
  | _ => none
noncomputable def evs : List Den → Sl → Option (List PV)
  | [],_ => some []
  | d :: r,σ => match d σ with
    | none => none
    | some x => match evs r σ with
      | none => none
      | some xs => some (x :: xs)
noncomputable def vr (i : Nat) : Den := fun σ => match σ[i]? with
  | some (.val v) => some v
  | _ => none
noncomputable def cst (v : PV) : Den := fun _ => some v
noncomputable def ci (k : Int) : Den := fun _ => some (.int k)
noncomputable def bin (f : PV → PV → Option PV) (a b : Den) : Den := fun σ => match a σ with
  | none => none
  | some x => match b σ with
    | none => none
    | some y => f x y
noncomputable def una (f : PV → Option PV) (a : Den) : Den := fun σ => match a σ with
  | none => none
  | some x => f x
noncomputable def ifx (t : TDen) (a b : Den) : Den := fun σ => match t σ with
  | none => none
  | some true => a σ
  | some false => b σ
noncomputable def tcmp (f : PV → PV → Option Bool) (a b : Den) : TDen := fun σ => match a σ with
  | none => none
  | some x => match b σ with
    | none => none
    | some y => f x y
noncomputable def tchain (f g : PV → PV → Option Bool) (a b c : Den) : TDen := fun σ => match a σ with
  | none => none
  | some x => match b σ with
    | none => none
    | some y => match f x y with
      | none => none
      | some false => some false
      | some true => match c σ with
        | none => none
        | some z => g y z
noncomputable def tand (a b : TDen) : TDen := fun σ => match a σ with
  | none => none
  | some true => b σ
  | some false => some false
noncomputable def tor (a b : TDen) : TDen := fun σ => match a σ with
  | none => none
  | some true => some true
  | some false => b σ
noncomputable def tnot (a : TDen) : TDen := fun σ => match a σ with
  | none => none
  | some b => some (!b)
noncomputable def ttrue : TDen := fun _ => some true
noncomputable def tval (a : Den) : TDen := fun σ => match a σ with
  | some (.bool b) => some b
  | _ => none
noncomputable def vtst (t : TDen) : Den := fun σ => match t σ with
  | none => none
  | some b => some (.bool b)
noncomputable def lst (ds : List Den) : Den := fun σ => match evs ds σ with
  | none => none
  | some xs => some (.list xs)
noncomputable def tpl (ds : List Den) : Den := fun σ => match evs ds σ with
  | none => none
  | some xs => some (.tup xs)
noncomputable def idx (a i : Den) : Den := bin idxV a i
noncomputable def idxO (i : Nat) (k : Den) : Den := fun σ => match σ[i]? with
  | some (.own xs) => (match k σ with
    | some (.int k) => if xs.length ≤ lenMax then idxL xs k else none
    | _ => none)
  | _ => none
noncomputable def lenO (i : Nat) : Den := fun σ => match σ[i]? with
  | some (.own xs) => if xs.length ≤ lenMax then some (.int xs.length) else none
  | _ => none
noncomputable def call (f : List PV → Option PV) (ds : List Den) : Den := fun σ => match evs ds σ with
  | none => none
  | some xs => f xs
noncomputable def max2V : PV → PV → Option PV
  | .int a,.int b => some (.int (if b > a then b else a))
  | _,_ => none
noncomputable def bestMax (a : Int) : List Int → Int
  | [] => a
  | b :: r => bestMax (if b > a then b else a) r
noncomputable def bestMin (a : Int) : List Int → Int
  | [] => a
  | b :: r => bestMin (if b < a then b else a) r
noncomputable def maxV : PV → Option PV
  | .list xs => match intsOf xs with
    | some (a :: r) => some (.int (bestMax a r))
    | _ => none
  | _ => none
noncomputable def minV : PV → Option PV
  | .list xs => match intsOf xs with
    | some (a :: r) => some (.int (bestMin a r))
    | _ => none
  | _ => none
noncomputable def inLong (a : Int) : Bool := decide (-(2 ^ 63) ≤ a) && decide (a < 2 ^ 63)
noncomputable def sumFits : Int → List Int → Bool
  | _,[] => true
  | t,a :: r => inLong a && inLong (t + a) && sumFits (t + a) r
noncomputable def sumV : PV → Option PV
  | .list xs => match intsOf xs with
    | some l => if sumFits 0 l then some (.int l.sum) else none
    | _ => none
  | _ => none
noncomputable def listV : PV → Option PV
  | .list xs => some (.list xs)
  | _ => none
noncomputable def setV : PV → Option PV
  | .list xs => match intsOf xs with
    | some l => if l.length ≤ 1000 then some (.setn (firstMet (fun i => l.getD i 0) l.length).length) else none
    | _ => none
  | _ => none
noncomputable def isStrV : PV → Option PV
  | .tup _ => some (.bool false)
  | _ => none
noncomputable def sliceToV : PV → PV → Option PV
  | .list xs,.int k => if 0 ≤ k ∧ k.natAbs ≤ lenMax then some (.list (xs.take k.toNat)) else none
  | _,_ => none
noncomputable def sliceFromV : PV → PV → Option PV
  | .list xs,.int k => if 0 ≤ k ∧ k.natAbs ≤ lenMax then some (.list (xs.drop k.toNat)) else none
  | _,_ => none
noncomputable def revV : PV → Option PV
  | .list xs => some (.list xs.reverse)
  | _ => none
noncomputable def itv (a : Den) : IDen := fun σ => match a σ with
  | none => none
  | some x => seqV x
noncomputable def itl (a : Den) : IDen := fun σ => match a σ with
  | some (.list xs) => some xs
  | _ => none
noncomputable def upto (a : Int) : Nat → List PV
  | 0 => []
  | n + 1 => .int a :: upto (a + 1) n
noncomputable def downto (a : Int) : Nat → List PV
  | 0 => []
  | n + 1 => .int a :: downto (a - 1) n
noncomputable def okR (a b : Int) : Bool := decide (a.natAbs ≤ lenMax) && decide (b.natAbs ≤ lenMax)
noncomputable def itUp (a b : Den) : IDen := fun σ => match a σ,b σ with
  | some (.int a),some (.int b) => if okR a b then some (upto a (b - a).toNat) else none
  | _,_ => none
noncomputable def itDown (a b : Den) : IDen := fun σ => match a σ,b σ with
  | some (.int a),some (.int b) => if okR a b then some (downto a (a - b).toNat) else none
  | _,_ => none
noncomputable def enumFrom' (n : Int) : List PV → List PV
  | [] => []
  | x :: r => .tup [.int n,x] :: enumFrom' (n + 1) r
noncomputable def itEnum (a : Den) : IDen := fun σ => match a σ with
  | some (.list xs) => some (enumFrom' 0 xs)
  | _ => none
noncomputable def zipT : List PV → List PV → List PV
  | x :: r,y :: t => .tup [x,y] :: zipT r t
  | _,_ => []
noncomputable def itZip (a b : Den) : IDen := fun σ => match a σ,b σ with
  | some (.list xs),some (.list ys) => if xs.length = ys.length then some (zipT xs ys) else none
  | _,_ => none
noncomputable def itRev (a : Den) : IDen := fun σ => match a σ with
  | some (.list xs) => some xs.reverse
  | _ => none
noncomputable def take1 (x : PV) : Option (List PV) := some [x]
noncomputable def take2 : PV → Option (List PV)
  | .tup [a,b] => some [a,b]
  | _ => none
noncomputable def frees : List Nat → Sl → Option Sl
  | [],_ => some []
  | i :: r,σ => match σ[i]? with
    | some (.val v) => (match frees r σ with
      | some t => some (.val v :: t)
      | none => none)
    | _ => none
noncomputable def compGo (tk : PV → Option (List PV)) (fr : Sl) (t : TDen) (e : Den) : List PV → Option (List PV)
  | [] => some []
  | x :: r => match tk x with
    | none => none
    | some vs => match t (vs.map .val ++ fr) with
      | none => none
      | some false => compGo tk fr t e r
      | some true => match e (vs.map .val ++ fr) with
        | none => none
        | some y => match compGo tk fr t e r with
          | none => none
          | some ys => some (y :: ys)
noncomputable def comp (it : IDen) (tk : PV → Option (List PV)) (fr : List Nat) (t : TDen) (e : Den) : Den := fun σ => match it σ with
  | none => none
  | some xs => if xs.length ≤ lenMax ∧ xs.all (fun x => (tk x).isSome) = true then (match frees fr σ with
      | none => none
      | some f => match compGo tk f t e xs with
        | none => none
        | some ys => some (.list ys)) else none
noncomputable def sAsg (i : Nat) (a : Den) : SDen := fun σ => match a σ with
  | none => none
  | some v => some (.next (σ.set i (.val v)))
noncomputable def sOwn (i : Nat) (a : Den) : SDen := fun σ => match a σ with
  | some (.list xs) => some (.next (σ.set i (.own xs)))
  | _ => none
noncomputable def setMany : List (Nat × Bool) → List PV → Sl → Option Sl
  | [],[],σ => some σ
  | (i,false) :: r,v :: vs,σ => setMany r vs (σ.set i (.val v))
  | (i,true) :: r,.list xs :: vs,σ => setMany r vs (σ.set i (.own xs))
  | _,_,_ => none
theorem sM0 (σ : Sl) : setMany [] [] σ = some σ := rfl
theorem sM1 (i : Nat) (r : List (Nat × Bool)) (v : PV) (vs : List PV) (σ : Sl) : setMany ((i,false) :: r) (v :: vs) σ = setMany r vs (σ.set i (.val v)) := rfl
theorem sM2 (i : Nat) (r : List (Nat × Bool)) (xs vs : List PV) (σ : Sl) : setMany ((i,true) :: r) (.list xs :: vs) σ = setMany r vs (σ.set i (.own xs)) := rfl
theorem sM3 (v : PV) (vs : List PV) (σ : Sl) : setMany [] (v :: vs) σ = none := rfl
theorem sM4 : ∀ (t : Nat × Bool) (r : List (Nat × Bool)) (σ : Sl),setMany (t :: r) [] σ = none
  | (_,false),_,_ => rfl
  | (_,true),_,_ => rfl
noncomputable def sTup (is : List (Nat × Bool)) (ds : List Den) : SDen := fun σ => match evs ds σ with
  | none => none
  | some vs => match setMany is vs σ with
    | none => none
    | some σ' => some (.next σ')
noncomputable def sUnp (is : List (Nat × Bool)) (a : Den) : SDen := fun σ => match a σ with
  | some (.tup vs) => (match setMany is vs σ with
    | none => none
    | some σ' => some (.next σ'))
  | _ => none
noncomputable def setIdx (xs : List PV) (k : Int) (v : PV) : Option (List PV) :=
  if 0 ≤ k ∧ k.toNat < xs.length then some (xs.set k.toNat v) else none
noncomputable def sSet (i : Nat) (k v : Den) : SDen := fun σ => match v σ with
  | none => none
  | some v => match k σ with
    | some (.int k) => (match σ[i]? with
      | some (.own xs) => (match setIdx xs k v with
        | some ys => if xs.length ≤ lenMax then some (.next (σ.set i (.own ys))) else none
        | none => none)
      | _ => none)
    | _ => none
noncomputable def sAugI (i : Nat) (f : PV → PV → Option PV) (k v : Den) : SDen := fun σ => match k σ with
    | some (.int k) => (match σ[i]? with
      | some (.own xs) => (match idxL xs k with
        | none => none
        | some old => match v σ with
          | none => none
          | some v => match f old v with
            | none => none
            | some new => match setIdx xs k new with
              | some ys => if xs.length ≤ lenMax then some (.next (σ.set i (.own ys))) else none
              | none => none)
      | _ => none)
    | _ => none
noncomputable def sApp (i : Nat) (a : Den) : SDen := fun σ => match a σ with
  | none => none
  | some v => match σ[i]? with
    | some (.own xs) => if xs.length < lenMax then some (.next (σ.set i (.own (xs ++ [v])))) else none
    | _ => none
noncomputable def sRet (a : Den) : SDen := fun σ => match a σ with
  | none => none
  | some v => some (.ret v)
noncomputable def sFrz (i : Nat) : SDen := fun σ => match σ[i]? with
  | some (.own xs) => if xs.length ≤ lenMax then some (.next (σ.set i (.val (.list xs)))) else none
  | _ => none
noncomputable def sDrop (a : Den) : SDen := fun σ => match a σ with
  | none => none
  | some _ => some (.next σ)
noncomputable def fuelI (i : Nat) : Sl → Nat := fun σ => match σ[i]? with
  | some (.val (.int k)) => k.natAbs + 2
  | _ => 0
noncomputable def fuelL (i : Nat) : Sl → Nat := fun σ => match σ[i]? with
  | some (.val (.list xs)) => xs.length + 3
  | _ => 0
noncomputable def sFail : SDen := fun _ => none
noncomputable def sNop : SDen := fun σ => some (.next σ)
noncomputable def sSeq (a b : SDen) : SDen := fun σ => match a σ with
  | none => none
  | some (.next σ') => b σ'
  | some (.ret v) => some (.ret v)
noncomputable def sIf (t : TDen) (a b : SDen) : SDen := fun σ => match t σ with
  | none => none
  | some true => a σ
  | some false => b σ
noncomputable def whileN (t : TDen) (b : SDen) : Nat → Sl → Option Out
  | 0,_ => none
  | n + 1,σ => match t σ with
    | none => none
    | some false => some (.next σ)
    | some true => match b σ with
      | none => none
      | some (.ret v) => some (.ret v)
      | some (.next σ') => whileN t b n σ'
noncomputable def sWhile (fuel : Sl → Nat) (t : TDen) (b : SDen) : SDen := fun σ => whileN t b (fuel σ) σ
noncomputable def bindT (is : List Nat) (vs : List PV) (σ : Sl) : Option Sl := setMany (is.map (·,false)) vs σ
noncomputable def forGo (tk : PV → Option (List PV)) (is : List Nat) (b : SDen) : List PV → Sl → Option Out
  | [],σ => some (.next σ)
  | x :: r,σ => match tk x with
    | none => none
    | some vs => match bindT is vs σ with
      | none => none
      | some σ₁ => match b σ₁ with
        | none => none
        | some (.ret v) => some (.ret v)
        | some (.next σ₂) => forGo tk is b r σ₂
noncomputable def sFor (it : IDen) (tk : PV → Option (List PV)) (is : List Nat) (b : SDen) : SDen := fun σ => match it σ with
  | none => none
  | some xs => if xs.all (fun x => (tk x).isSome) = true then forGo tk is b xs σ else none
noncomputable def run (n : Nat) (b : SDen) (args : List PV) : Option PV :=
  match b (args.map .val ++ List.replicate (n - args.length) .unset) with
  | some (.ret v) => some v
  | some (.next _) => some .none
  | none => none
end Mine
end
section
open PySem PySem.W PyProof.Rows
namespace Mine
noncomputable def b_gcd : SDen :=
 (sSeq (sTup [(0,false),(1,false)] [(una absV (vr 0)),(una absV (vr 1))])
 (sSeq (sWhile (fuelI 1) (tcmp neV (vr 1) (ci 0))
 (sTup [(0,false),(1,false)] [(vr 1),(bin modV (vr 0) (vr 1))]))
 (sRet (vr 0))))
noncomputable def n_gcd : List Str := [Str.ofString "a",Str.ofString "b"]
noncomputable def d_gcd (args : List PV) : Option PV := if args.length = 2 then run 2 b_gcd args else none
noncomputable def b_gcd_all : SDen :=
 (sSeq (sAsg 1 (ci 0))
 (sSeq (sFor (itv (vr 0)) take1 [2]
 (sAsg 1 (call d_gcd [(vr 1),(vr 2)])))
 (sRet (vr 1))))
noncomputable def n_gcd_all : List Str := [Str.ofString "numbers",Str.ofString "found",Str.ofString "number"]
noncomputable def d_gcd_all (args : List PV) : Option PV := if args.length = 1 then run 3 b_gcd_all args else none
noncomputable def b_ztrim : SDen :=
 (sSeq (sAsg 1 (una lenV (vr 0)))
 (sSeq (sWhile (fuelI 1) (tand (tcmp gtV (vr 1) (ci 0)) (tcmp eqV (idx (vr 0) (bin subV (vr 1) (ci 1))) (ci 0)))
 (sAsg 1 (bin subI (vr 1) (ci 1))))
 (sRet (una listV (bin sliceToV (vr 0) (vr 1))))))
noncomputable def n_ztrim : List Str := [Str.ofString "row",Str.ofString "size"]
noncomputable def d_ztrim (args : List PV) : Option PV := if args.length = 1 then run 2 b_ztrim args else none
noncomputable def b_zdegree : SDen :=
 (sRet (bin subV (una lenV (vr 0)) (ci 1)))
noncomputable def n_zdegree : List Str := [Str.ofString "p"]
noncomputable def d_zdegree (args : List PV) : Option PV := if args.length = 1 then run 1 b_zdegree args else none
noncomputable def b_zlead : SDen :=
 (sRet (ifx (tcmp gtV (una lenV (vr 0)) (ci 0)) (idx (vr 0) (una negV (ci 1))) (ci 0)))
noncomputable def n_zlead : List Str := [Str.ofString "p"]
noncomputable def d_zlead (args : List PV) : Option PV := if args.length = 1 then run 1 b_zlead args else none
noncomputable def b_zadd : SDen :=
 (sSeq (sAsg 2 (bin max2V (una lenV (vr 0)) (una lenV (vr 1))))
 (sRet (call d_ztrim [(comp (itUp (ci 0) (vr 2)) take1 [0,1] ttrue (bin addV (ifx (tcmp ltV (vr 0) (una lenV (vr 1))) (idx (vr 1) (vr 0)) (ci 0)) (ifx (tcmp ltV (vr 0) (una lenV (vr 2))) (idx (vr 2) (vr 0)) (ci 0))))])))
noncomputable def n_zadd : List Str := [Str.ofString "a",Str.ofString "b",Str.ofString "size"]
noncomputable def d_zadd (args : List PV) : Option PV := if args.length = 2 then run 3 b_zadd args else none
noncomputable def b_zneg : SDen :=
 (sRet (comp (itv (vr 0)) take1 [] ttrue (una negV (vr 0))))
noncomputable def n_zneg : List Str := [Str.ofString "p"]
noncomputable def d_zneg (args : List PV) : Option PV := if args.length = 1 then run 1 b_zneg args else none
noncomputable def b_zsub : SDen :=
 (sRet (call d_zadd [(vr 0),(call d_zneg [(vr 1)])]))
noncomputable def n_zsub : List Str := [Str.ofString "a",Str.ofString "b"]
noncomputable def d_zsub (args : List PV) : Option PV := if args.length = 2 then run 2 b_zsub args else none
noncomputable def b_zscale : SDen :=
 (sRet (ifx (tcmp neV (vr 1) (ci 0)) (comp (itv (vr 0)) take1 [1] ttrue (bin mulV (vr 0) (vr 1))) (lst [])))
noncomputable def n_zscale : List Str := [Str.ofString "p",Str.ofString "k"]
noncomputable def d_zscale (args : List PV) : Option PV := if args.length = 2 then run 2 b_zscale args else none
noncomputable def b_zraise : SDen :=
 (sRet (ifx (tcmp gtV (una lenV (vr 0)) (ci 0)) (bin addV (bin mulV (lst [(ci 0)]) (vr 1)) (una listV (vr 0))) (lst [])))
noncomputable def n_zraise : List Str := [Str.ofString "p",Str.ofString "many"]
noncomputable def d_zraise (args : List PV) : Option PV := if args.length = 2 then run 2 b_zraise args else none
noncomputable def b_zmul : SDen :=
 (sSeq (sIf (tor (tcmp eqV (una lenV (vr 0)) (ci 0)) (tcmp eqV (una lenV (vr 1)) (ci 0)))
 (sRet (lst []))
 sNop)
 (sSeq (sOwn 2 (bin mulV (lst [(ci 0)]) (bin subV (bin addV (una lenV (vr 0)) (una lenV (vr 1))) (ci 1))))
 (sSeq (sFor (itEnum (vr 0)) take2 [3,4]
 (sIf (tcmp neV (vr 4) (ci 0))
  (sFor (itEnum (vr 1)) take2 [5,6]
   (sAugI 2 addI (bin addV (vr 3) (vr 5)) (bin mulV (vr 4) (vr 6))))
  sNop))
 (sSeq (sFrz 2)
 (sRet (vr 2))))))
noncomputable def n_zmul : List Str := [Str.ofString "a",Str.ofString "b",Str.ofString "found",Str.ofString "one",Str.ofString "left",Str.ofString "other",Str.ofString "right"]
noncomputable def d_zmul (args : List PV) : Option PV := if args.length = 2 then run 7 b_zmul args else none
noncomputable def b_zcontent : SDen :=
 (sRet (call d_gcd_all [(vr 0)]))
noncomputable def n_zcontent : List Str := [Str.ofString "p"]
noncomputable def d_zcontent (args : List PV) : Option PV := if args.length = 1 then run 1 b_zcontent args else none
noncomputable def b_zdivided : SDen :=
 (sRet (comp (itv (vr 0)) take1 [1] ttrue (bin fdivV (vr 0) (vr 1))))
noncomputable def n_zdivided : List Str := [Str.ofString "p",Str.ofString "k"]
noncomputable def d_zdivided (args : List PV) : Option PV := if args.length = 2 then run 2 b_zdivided args else none
noncomputable def b_zprimitive : SDen :=
 (sSeq (sIf (tcmp eqV (una lenV (vr 0)) (ci 0))
 (sRet (lst []))
 sNop)
 (sSeq (sAsg 1 (call d_zcontent [(vr 0)]))
 (sRet (call d_zdivided [(vr 0),(ifx (tcmp gtV (idx (vr 0) (una negV (ci 1))) (ci 0)) (vr 1) (una negV (vr 1)))]))))
noncomputable def n_zprimitive : List Str := [Str.ofString "p",Str.ofString "content"]
noncomputable def d_zprimitive (args : List PV) : Option PV := if args.length = 1 then run 2 b_zprimitive args else none
noncomputable def b_zderive : SDen :=
 (sRet (bin sliceFromV (comp (itEnum (vr 0)) take2 [] ttrue (bin mulV (vr 1) (vr 0))) (ci 1)))
noncomputable def n_zderive : List Str := [Str.ofString "p"]
noncomputable def d_zderive (args : List PV) : Option PV := if args.length = 1 then run 1 b_zderive args else none
noncomputable def b_zshift : SDen :=
 (sSeq (sOwn 2 (una listV (vr 0)))
 (sSeq (sFor (itUp (ci 0) (bin subV (una lenV (vr 0)) (ci 1))) take1 [3]
 (sFor (itDown (bin subV (una lenV (vr 0)) (ci 2)) (bin subV (vr 3) (ci 1))) take1 [4]
  (sAugI 2 addI (vr 4) (bin mulV (vr 1) (idxO 2 (bin addV (vr 4) (ci 1)))))))
 (sSeq (sFrz 2)
 (sRet (vr 2)))))
noncomputable def n_zshift : List Str := [Str.ofString "p",Str.ofString "n",Str.ofString "found",Str.ofString "low",Str.ofString "at"]
noncomputable def d_zshift (args : List PV) : Option PV := if args.length = 2 then run 5 b_zshift args else none
noncomputable def b_check_bottom : SDen :=
 (sIf (tcmp eqV (una lenV (vr 0)) (ci 0))
 sFail
 sNop)
noncomputable def n_check_bottom : List Str := [Str.ofString "p"]
noncomputable def d_check_bottom (args : List PV) : Option PV := if args.length = 1 then run 1 b_check_bottom args else none
noncomputable def b_zexact : SDen :=
 (sSeq (sDrop (call d_check_bottom [(vr 1)]))
 (sSeq (sTup [(2,false),(3,true)] [(una listV (vr 0)),(bin mulV (lst [(ci 0)]) (bin max2V (ci 0) (bin addV (bin subV (una lenV (vr 0)) (una lenV (vr 1))) (ci 1))))])
 (sSeq (sWhile (fuelL 2) (tcmp geV (una lenV (vr 2)) (una lenV (vr 1)))
 (sSeq (sIf (tcmp neV (bin modV (idx (vr 2) (una negV (ci 1))) (idx (vr 1) (una negV (ci 1)))) (ci 0))
  (sRet (cst .none))
  sNop)
  (sSeq (sTup [(4,false),(5,false)] [(bin fdivV (idx (vr 2) (una negV (ci 1))) (idx (vr 1) (una negV (ci 1)))),(bin subV (una lenV (vr 2)) (una lenV (vr 1)))])
  (sSeq (sSet 3 (vr 5) (vr 4))
  (sAsg 2 (call d_zsub [(vr 2),(call d_zraise [(call d_zscale [(vr 1),(vr 4)]),(vr 5)])]))))))
 (sSeq (sFrz 3)
 (sRet (ifx (tcmp eqV (una lenV (vr 2)) (ci 0)) (call d_ztrim [(vr 3)]) (cst .none)))))))
noncomputable def n_zexact : List Str := [Str.ofString "a",Str.ofString "b",Str.ofString "rest",Str.ofString "found",Str.ofString "number",Str.ofString "power"]
noncomputable def d_zexact (args : List PV) : Option PV := if args.length = 2 then run 6 b_zexact args else none
noncomputable def b_pseudo : SDen :=
 (sSeq (sDrop (call d_check_bottom [(vr 1)]))
 (sSeq (sAsg 2 (bin max2V (ci 0) (bin addV (bin subV (una lenV (vr 0)) (una lenV (vr 1))) (ci 1))))
 (sSeq (sTup [(3,false),(4,false),(5,false),(6,false)] [(una listV (vr 0)),(lst []),(vr 2),(call d_zlead [(vr 1)])])
 (sSeq (sWhile (fuelL 3) (tcmp geV (una lenV (vr 3)) (una lenV (vr 1)))
 (sSeq (sTup [(7,false),(8,false)] [(idx (vr 3) (una negV (ci 1))),(bin subV (una lenV (vr 3)) (una lenV (vr 1)))])
  (sSeq (sAsg 4 (call d_zsub [(call d_zscale [(vr 4),(vr 6)]),(call d_zraise [(lst [(una negV (vr 7))]),(vr 8)])]))
  (sSeq (sAsg 3 (call d_zsub [(call d_zscale [(vr 3),(vr 6)]),(call d_zraise [(call d_zscale [(vr 1),(vr 7)]),(vr 8)])]))
  (sAsg 5 (bin subI (vr 5) (ci 1)))))))
 (sSeq (sAsg 9 (bin powV (vr 6) (vr 5)))
 (sRet (tpl [(call d_zscale [(vr 4),(vr 9)]),(call d_zscale [(vr 3),(vr 9)]),(vr 2)])))))))
noncomputable def n_pseudo : List Str := [Str.ofString "a",Str.ofString "b",Str.ofString "many",Str.ofString "rest",Str.ofString "found",Str.ofString "left",Str.ofString "first",Str.ofString "number",Str.ofString "power",Str.ofString "more"]
noncomputable def d_pseudo (args : List PV) : Option PV := if args.length = 2 then run 10 b_pseudo args else none
noncomputable def b_zpseudo_rest : SDen :=
 (sRet (idx (call d_pseudo [(vr 0),(vr 1)]) (ci 1)))
noncomputable def n_zpseudo_rest : List Str := [Str.ofString "a",Str.ofString "b"]
noncomputable def d_zpseudo_rest (args : List PV) : Option PV := if args.length = 2 then run 2 b_zpseudo_rest args else none
noncomputable def b_next_height : SDen :=
 (sSeq (sIf (tcmp eqV (vr 1) (ci 0))
 (sRet (vr 2))
 sNop)
 (sRet (bin fdivV (bin powV (vr 0) (vr 1)) (bin powV (vr 2) (bin subV (vr 1) (ci 1))))))
noncomputable def n_next_height : List Str := [Str.ofString "front",Str.ofString "step",Str.ofString "height"]
noncomputable def d_next_height (args : List PV) : Option PV := if args.length = 3 then run 3 b_next_height args else none
noncomputable def b_subresultants : SDen :=
 (sSeq (sIf (tcmp ltV (una lenV (vr 0)) (una lenV (vr 1)))
 (sTup [(0,false),(1,false)] [(vr 1),(vr 0)])
 sNop)
 (sSeq (sTup [(2,true),(3,false),(4,false)] [(lst [(una listV (vr 0)),(una listV (vr 1))]),(ci 1),(ci 1)])
 (sSeq (sWhile (fuelL 1) (tcmp gtV (una lenV (vr 1)) (ci 1))
 (sSeq (sAsg 5 (bin subV (una lenV (vr 0)) (una lenV (vr 1))))
  (sSeq (sAsg 6 (call d_zpseudo_rest [(vr 0),(vr 1)]))
  (sSeq (sIf (tcmp eqV (una lenV (vr 6)) (ci 0))
  (sSeq (sFrz 2)
   (sRet (vr 2)))
  sNop)
  (sSeq (sTup [(0,false),(1,false)] [(vr 1),(call d_zdivided [(vr 6),(bin mulV (vr 3) (bin powV (vr 4) (vr 5)))])])
  (sSeq (sApp 2 (vr 1))
  (sSeq (sAsg 3 (call d_zlead [(vr 0)]))
  (sAsg 4 (call d_next_height [(vr 3),(vr 5),(vr 4)])))))))))
 (sSeq (sFrz 2)
 (sRet (vr 2))))))
noncomputable def n_subresultants : List Str := [Str.ofString "a",Str.ofString "b",Str.ofString "row",Str.ofString "front",Str.ofString "height",Str.ofString "step",Str.ofString "rest"]
noncomputable def d_subresultants (args : List PV) : Option PV := if args.length = 2 then run 7 b_subresultants args else none
noncomputable def b_zgcd : SDen :=
 (sSeq (sIf (tor (tcmp eqV (una lenV (vr 0)) (ci 0)) (tcmp eqV (una lenV (vr 1)) (ci 0)))
 (sSeq (sAsg 2 (ifx (tcmp eqV (una lenV (vr 0)) (ci 0)) (vr 1) (vr 0)))
  (sRet (call d_zscale [(call d_zprimitive [(vr 2)]),(call d_zcontent [(vr 2)])])))
 sNop)
 (sSeq (sAsg 3 (call d_gcd [(call d_zcontent [(vr 0)]),(call d_zcontent [(vr 1)])]))
 (sSeq (sAsg 4 (idx (call d_subresultants [(call d_zprimitive [(vr 0)]),(call d_zprimitive [(vr 1)])]) (una negV (ci 1))))
 (sRet (ifx (tcmp gtV (una lenV (vr 4)) (ci 1)) (call d_zscale [(call d_zprimitive [(vr 4)]),(vr 3)]) (lst [(vr 3)]))))))
noncomputable def n_zgcd : List Str := [Str.ofString "a",Str.ofString "b",Str.ofString "only",Str.ofString "number",Str.ofString "last"]
noncomputable def d_zgcd (args : List PV) : Option PV := if args.length = 2 then run 5 b_zgcd args else none
noncomputable def b_sign_of : SDen :=
 (sRet (bin subV (vtst (tcmp gtV (vr 0) (ci 0))) (vtst (tcmp ltV (vr 0) (ci 0)))))
noncomputable def n_sign_of : List Str := [Str.ofString "number"]
noncomputable def d_sign_of (args : List PV) : Option PV := if args.length = 1 then run 1 b_sign_of args else none
noncomputable def b_value_sign : SDen :=
 (sSeq (sUnp [(2,false),(3,false)] (vr 1))
 (sSeq (sTup [(4,false),(5,false)] [(ci 0),(ci 1)])
 (sSeq (sFor (itRev (vr 0)) take1 [6]
 (sSeq (sAsg 4 (bin addV (bin mulV (vr 4) (vr 2)) (bin mulV (vr 6) (vr 5))))
  (sAsg 5 (bin mulV (vr 5) (vr 3)))))
 (sRet (call d_sign_of [(vr 4)])))))
noncomputable def n_value_sign : List Str := [Str.ofString "p",Str.ofString "x",Str.ofString "top",Str.ofString "bottom",Str.ofString "found",Str.ofString "scale",Str.ofString "coefficient"]
noncomputable def d_value_sign (args : List PV) : Option PV := if args.length = 2 then run 7 b_value_sign args else none
noncomputable def b_end_sign : SDen :=
 (sSeq (sIf (tcmp eqV (vr 0) (lst []))
 (sRet (ci 0))
 sNop)
 (sSeq (sAsg 2 (call d_sign_of [(call d_zlead [(vr 0)])]))
 (sRet (ifx (tand (tcmp eqV (vr 1) (cst (.str (Str.ofString "-")))) (tcmp eqV (bin modV (call d_zdegree [(vr 0)]) (ci 2)) (ci 1))) (una negV (vr 2)) (vr 2)))))
noncomputable def n_end_sign : List Str := [Str.ofString "p",Str.ofString "end",Str.ofString "found"]
noncomputable def d_end_sign (args : List PV) : Option PV := if args.length = 2 then run 3 b_end_sign args else none
noncomputable def b_sign_at : SDen :=
 (sRet (ifx (tval (una isStrV (vr 1))) (call d_end_sign [(vr 0),(vr 1)]) (call d_value_sign [(vr 0),(vr 1)])))
noncomputable def n_sign_at : List Str := [Str.ofString "p",Str.ofString "x"]
noncomputable def d_sign_at (args : List PV) : Option PV := if args.length = 2 then run 2 b_sign_at args else none
noncomputable def b_simple_part : SDen :=
 (sSeq (sAsg 1 (call d_zgcd [(vr 0),(call d_zderive [(vr 0)])]))
 (sRet (ifx (tcmp gtV (call d_zdegree [(vr 1)]) (ci 0)) (call d_zexact [(vr 0),(vr 1)]) (vr 0))))
noncomputable def n_simple_part : List Str := [Str.ofString "f",Str.ofString "common"]
noncomputable def d_simple_part (args : List PV) : Option PV := if args.length = 1 then run 2 b_simple_part args else none
noncomputable def b_lessened : SDen :=
 (sSeq (sAsg 1 (call d_zcontent [(vr 0)]))
 (sRet (ifx (tcmp gtV (vr 1) (ci 1)) (comp (itv (vr 0)) take1 [1] ttrue (bin fdivV (vr 0) (vr 1))) (vr 0))))
noncomputable def n_lessened : List Str := [Str.ofString "p",Str.ofString "content"]
noncomputable def d_lessened (args : List PV) : Option PV := if args.length = 1 then run 2 b_lessened args else none
noncomputable def b_next_of_row : SDen :=
 (sSeq (sUnp [(2,false),(3,false),(4,false)] (call d_pseudo [(vr 0),(vr 1)]))
 (sSeq (sIf (tand (tcmp eqV (bin modV (vr 4) (ci 2)) (ci 1)) (tcmp ltV (call d_zlead [(vr 1)]) (ci 0)))
 (sRet (call d_lessened [(vr 3)]))
 sNop)
 (sRet (call d_lessened [(call d_zneg [(vr 3)])]))))
noncomputable def n_next_of_row : List Str := [Str.ofString "a",Str.ofString "b",Str.ofString "quotient",Str.ofString "rest",Str.ofString "power"]
noncomputable def d_next_of_row (args : List PV) : Option PV := if args.length = 2 then run 5 b_next_of_row args else none
noncomputable def b_sturm_row : SDen :=
 (sSeq (sTup [(1,true),(2,false)] [(lst [(vr 0)]),(call d_zderive [(vr 0)])])
 (sSeq (sWhile (fuelL 2) (tcmp neV (vr 2) (lst []))
 (sSeq (sApp 1 (vr 2))
  (sAsg 2 (call d_next_of_row [(idxO 1 (una negV (ci 2))),(idxO 1 (una negV (ci 1)))]))))
 (sSeq (sFrz 1)
 (sRet (vr 1)))))
noncomputable def n_sturm_row : List Str := [Str.ofString "f",Str.ofString "found",Str.ofString "later"]
noncomputable def d_sturm_row (args : List PV) : Option PV := if args.length = 1 then run 3 b_sturm_row args else none
noncomputable def b_changes_at : SDen :=
 (sSeq (sAsg 2 (comp (itv (vr 0)) take1 [1] ttrue (call d_sign_at [(vr 0),(vr 1)])))
 (sSeq (sAsg 2 (comp (itv (vr 2)) take1 [] (tcmp neV (vr 0) (ci 0)) (vr 0)))
 (sRet (una lenV (comp (itUp (ci 1) (una lenV (vr 2))) take1 [2] (tcmp neV (idx (vr 1) (vr 0)) (idx (vr 1) (bin subV (vr 0) (ci 1)))) (ci 1))))))
noncomputable def n_changes_at : List Str := [Str.ofString "row",Str.ofString "x",Str.ofString "signs"]
noncomputable def d_changes_at (args : List PV) : Option PV := if args.length = 2 then run 3 b_changes_at args else none
noncomputable def b_count_by_row : SDen :=
 (sRet (bin subV (call d_changes_at [(vr 0),(vr 1)]) (call d_changes_at [(vr 0),(vr 2)])))
noncomputable def n_count_by_row : List Str := [Str.ofString "row",Str.ofString "low",Str.ofString "high"]
noncomputable def d_count_by_row (args : List PV) : Option PV := if args.length = 3 then run 3 b_count_by_row args else none
noncomputable def b_count_roots : SDen :=
 (sRet (call d_count_by_row [(call d_sturm_row [(call d_simple_part [(vr 0)])]),(vr 1),(vr 2)]))
noncomputable def n_count_roots : List Str := [Str.ofString "f",Str.ofString "low",Str.ofString "high"]
noncomputable def d_count_roots (args : List PV) : Option PV := if args.length = 3 then run 3 b_count_roots args else none
noncomputable def b_law_choices : SDen :=
 (sSeq (sAsg 1 (lst [(ci 1)]))
 (sSeq (sFor (itUp (ci 0) (vr 0)) take1 [2]
 (sAsg 1 (bin addV (bin addV (lst [(ci 1)]) (comp (itUp (ci 0) (bin subV (una lenV (vr 1)) (ci 1))) take1 [1] ttrue (bin addV (idx (vr 1) (vr 0)) (idx (vr 1) (bin addV (vr 0) (ci 1)))))) (lst [(ci 1)]))))
 (sRet (vr 1))))
noncomputable def n_law_choices : List Str := [Str.ofString "n",Str.ofString "row",Str.ofString "turn"]
noncomputable def d_law_choices (args : List PV) : Option PV := if args.length = 1 then run 3 b_law_choices args else none
noncomputable def b_law_row : SDen :=
 (sSeq (sTup [(1,false),(2,true)] [(bin subV (una lenV (vr 0)) (ci 1)),(bin mulV (lst [(ci 0)]) (una lenV (vr 0)))])
 (sSeq (sFor (itEnum (vr 0)) take2 [3,4]
 (sFor (itEnum (call d_law_choices [(bin subV (vr 1) (vr 3))])) take2 [5,6]
  (sSet 2 (bin addV (vr 3) (vr 5)) (bin addV (idxO 2 (bin addV (vr 3) (vr 5))) (bin mulV (vr 4) (vr 6))))))
 (sSeq (sFrz 2)
 (sRet (vr 2)))))
noncomputable def n_law_row : List Str := [Str.ofString "f",Str.ofString "n",Str.ofString "found",Str.ofString "power",Str.ofString "number",Str.ofString "at",Str.ofString "many"]
noncomputable def d_law_row (args : List PV) : Option PV := if args.length = 1 then run 7 b_law_row args else none
noncomputable def b_law_changes : SDen :=
 (sSeq (sAsg 1 (comp (itv (vr 0)) take1 [] (tcmp neV (vr 0) (ci 0)) (vr 0)))
 (sRet (una lenV (comp (itUp (ci 0) (bin subV (una lenV (vr 1)) (ci 1))) take1 [1] (tcmp ltV (bin mulV (idx (vr 1) (vr 0)) (idx (vr 1) (bin addV (vr 0) (ci 1)))) (ci 0)) (ci 1)))))
noncomputable def n_law_changes : List Str := [Str.ofString "row",Str.ofString "kept"]
noncomputable def d_law_changes (args : List PV) : Option PV := if args.length = 1 then run 2 b_law_changes args else none
noncomputable def b_law_between : SDen :=
 (sSeq (sTup [(2,false),(3,false)] [(bin subV (una lenV (vr 0)) (ci 1)),(call d_law_choices [(bin subV (una lenV (vr 0)) (ci 1))])])
 (sSeq (sFor (itv (tpl [(ci 1),(ci 2),(ci 3)])) take1 [4]
 (sSeq (sAsg 5 (una sumV (comp (itEnum (vr 0)) take2 [4,2] ttrue (bin mulV (bin mulV (vr 1) (bin powV (vr 2) (vr 0))) (bin powV (ci 4) (bin subV (vr 3) (vr 0)))))))
  (sSeq (sAsg 6 (comp (itUp (ci 0) (bin addV (vr 2) (ci 1))) take1 [5,1,2,3] ttrue (bin subV (bin mulV (idx (vr 2) (vr 0)) (bin powV (ci 4) (vr 3))) (bin mulV (vr 1) (idx (vr 4) (vr 0))))))
  (sIf (tor (tcmp gtV (una minV (vr 6)) (ci 0)) (tcmp ltV (una maxV (vr 6)) (ci 0)))
  (sRet (cst (.bool false)))
  sNop))))
 (sRet (cst (.bool true)))))
noncomputable def n_law_between : List Str := [Str.ofString "f",Str.ofString "row",Str.ofString "n",Str.ofString "choices",Str.ofString "j",Str.ofString "value",Str.ofString "gaps"]
noncomputable def d_law_between (args : List PV) : Option PV := if args.length = 2 then run 7 b_law_between args else none
noncomputable def b_law : SDen :=
 (sSeq (sFor (itv (vr 2)) take1 [4]
 (sAsg 3 (call d_zmul [(vr 3),(vr 4)])))
 (sSeq (sTup [(5,false),(6,false)] [(bin subV (una lenV (vr 3)) (ci 1)),(comp (itv (vr 2)) take1 [] (tcmp eqV (una lenV (vr 0)) (ci 2)) (tpl [(bin subV (ci 0) (idx (vr 0) (ci 0))),(idx (vr 0) (ci 1))]))])
 (sSeq (sAsg 7 (comp (itEnum (vr 3)) take2 [5] ttrue (bin mulV (vr 1) (bin powV (ci 2) (bin subV (vr 2) (vr 0))))))
 (sSeq (sAsg 8 (lst [(vr 3),(vr 7),(call d_zshift [(vr 7),(ci 1)])]))
 (sSeq (sOwn 9 (lst [(una lenV (comp (itl (vr 6)) take2 [] (tchain ltV ltV (ci 0) (vr 0) (vr 1)) (ci 1))),(una lenV (comp (itl (vr 6)) take2 [] (tchain ltV ltV (ci 0) (bin mulV (ci 2) (vr 0)) (vr 1)) (ci 1)))]))
 (sSeq (sApp 9 (una lenV (comp (itl (vr 6)) take2 [] (tchain ltV ltV (vr 1) (bin mulV (ci 2) (vr 0)) (bin mulV (ci 2) (vr 1))) (ci 1))))
 (sSeq (sOwn 10 (lst []))
 (sSeq (sFrz 9)
 (sSeq (sFor (itZip (vr 8) (vr 9)) take2 [11,12]
 (sSeq (sAsg 13 (call d_law_row [(vr 11)]))
  (sSeq (sIf (tcmp neV (una revV (call d_zshift [(una revV (vr 11)),(ci 1)])) (vr 13))
  (sRet (cst (.bool false)))
  sNop)
  (sSeq (sApp 10 (call d_law_changes [(vr 13)]))
  (sIf (tor (tcmp ltV (idxO 10 (una negV (ci 1))) (vr 12)) (tor (tcmp neV (bin modV (bin subV (idxO 10 (una negV (ci 1))) (vr 12)) (ci 2)) (ci 0)) (tnot (tval (call d_law_between [(vr 11),(vr 13)])))))
  (sRet (cst (.bool false)))
  sNop)))))
 (sSeq (sAsg 14 (bin subV (bin subV (bin subV (idxO 10 (ci 0)) (idxO 10 (ci 1))) (idxO 10 (ci 2))) (una lenV (comp (itl (vr 6)) take2 [] (tcmp eqV (bin mulV (ci 2) (vr 0)) (vr 1)) (ci 1)))))
 (sSeq (sAsg 15 (una lenV (una setV (comp (itl (vr 6)) take2 [] (tchain ltV leV (ci 0) (vr 0) (vr 1)) (bin fdivV (bin mulV (vr 0) (ci 60)) (vr 1))))))
 (sRet (vtst (tand (tcmp geV (vr 14) (ci 0)) (tand (tcmp eqV (bin modV (vr 14) (ci 2)) (ci 0)) (tcmp eqV (call d_count_roots [(vr 3),(tpl [(ci 0),(ci 1)]),(tpl [(ci 1),(ci 1)])]) (vr 15)))))))))))))))))
noncomputable def n_law : List Str := [Str.ofString "script",Str.ofString "pool",Str.ofString "parts",Str.ofString "f",Str.ofString "part",Str.ofString "n",Str.ofString "lines",Str.ofString "left",Str.ofString "halves",Str.ofString "roots",Str.ofString "more",Str.ofString "one",Str.ofString "many",Str.ofString "row",Str.ofString "gap",Str.ofString "unlike"]
noncomputable def d_law (args : List PV) : Option PV := if args.length = 1 then run 16 b_law args else none
noncomputable def lawOf (parts : PV) : Option PV :=
  match b_law ([.unset,.unset,.val parts,.val (.list [.int 1])] ++ List.replicate (n_law.length - 4) .unset) with
  | some (.ret v) => some v
  | _ => none
noncomputable def pvI (l : List Int) : PV := .list (l.map .int)
noncomputable def isT : Option PV → Bool
  | some (.bool true) => true
  | _ => false
end Mine
end
section
open PySem PySem.W PyProof.Rows
namespace Mine
noncomputable def SetN (h : Heap) (a : Addr) (n : Nat) : Prop := ∃ o es ep tb,h.get? a = some o ∧ o.ExactSet ∧ o.data = .set es ep tb ∧ tb.fits es.size = true ∧ es.size = n
noncomputable abbrev HS := Addr → Prop
mutual
noncomputable def Rep (H : HS) (h : Heap) : PV → Value → Prop
  | .none,v => v = .none
  | .bool b,v => v = .bool b
  | .int i,v => ∃ t,v = .int i t
  | .str x,v => ∃ t,v = .str x t
  | .list xs,v => ∃ a vs,v = .ref a ∧ ¬ H a ∧ h.PlainList a (List.toArray vs) ∧ RepL H h xs vs ∧ xs.length ≤ lenMax
  | .tup xs,v => ∃ a vs,v = .ref a ∧ ¬ H a ∧ h.IsTuple a (List.toArray vs) ∧ RepL H h xs vs ∧ xs.length ≤ lenMax
  | .setn n,v => ∃ a,v = .ref a ∧ ¬ H a ∧ SetN h a n ∧ n ≤ lenMax
  | .addr a,v => v = .ref a
noncomputable def RepL (H : HS) (h : Heap) : List PV → List Value → Prop
  | [],vs => vs = []
  | x :: xs,vs => ∃ v r,vs = v :: r ∧ Rep H h x v ∧ RepL H h xs r
end
noncomputable def Froz (H : HS) (h : Heap) (H' : HS) (h' : Heap) : Prop := ∀ b o,¬ H b → h.get? b = some o → ¬ H' b ∧ h'.get? b = some o
theorem Froz.refl (H : HS) (h : Heap) : Froz H h H h := fun _ _ n e => ⟨n,e⟩
theorem Froz.trans {H H' H'' : HS} {h h' h'' : Heap} (x : Froz H h H' h') (y : Froz H' h' H'' h'') : Froz H h H'' h'' :=
  fun b o n e => let ⟨n',e'⟩ := x b o n e; y b o n' e'
theorem isList_mono {h h' : Heap} {a : Addr} {vs : Array Value} (x : h.PlainList a vs) (k : ∀ o,h.get? a = some o → h'.get? a = some o) : h'.PlainList a vs :=
  let ⟨n,ho⟩ := x; ⟨n,k _ ho⟩
theorem plain_isList {h : Heap} {a : Addr} {vs : Array Value} (x : h.PlainList a vs) : h.IsList a vs := let ⟨n,ho⟩ := x; ⟨_,ho,rfl,n,rfl⟩
mutual
theorem rep_froz {H H' : HS} {h h' : Heap} (f : Froz H h H' h') : ∀ (x : PV) (v : Value),Rep H h x v → Rep H' h' x v
  | .none,v,r => by simpa [Rep] using r
  | .bool b,v,r => by simpa [Rep] using r
  | .int i,v,r => by simpa [Rep] using r
  | .str s,v,r => by simpa [Rep] using r
  | .addr a,v,r => by simpa [Rep] using r
  | .list xs,v,r => by
    rw [Rep] at r ⊢
    obtain ⟨a,vs,rfl,n,l,rs,hl⟩ := r
    have l' := l
    obtain ⟨k,ho⟩ := l'
    exact ⟨a,vs,rfl,(f a _ n ho).1,isList_mono l fun o ho => (f a o n ho).2,repL_froz f xs vs rs,hl⟩
  | .tup xs,v,r => by
    rw [Rep] at r ⊢
    obtain ⟨a,vs,rfl,n,l,rs,hl⟩ := r
    have l' := l
    obtain ⟨o,ho,r2⟩ := l'
    exact ⟨a,vs,rfl,(f a o n ho).1,⟨o,(f a o n ho).2,r2⟩,repL_froz f xs vs rs,hl⟩
  | .setn k,v,r => by
    rw [Rep] at r ⊢
    obtain ⟨a,rfl,n,⟨o,es,ep,tb,ho,r2⟩,hl⟩ := r
    exact ⟨a,rfl,(f a o n ho).1,⟨o,es,ep,tb,(f a o n ho).2,r2⟩,hl⟩
theorem repL_froz {H H' : HS} {h h' : Heap} (f : Froz H h H' h') : ∀ (xs : List PV) (vs : List Value),RepL H h xs vs → RepL H' h' xs vs
  | [],vs,r => by simpa [RepL] using r
  | x :: xs,vs,r => by
    rw [RepL] at r ⊢
    obtain ⟨v,t,rfl,a,b⟩ := r
    exact ⟨v,t,rfl,rep_froz f x v a,repL_froz f xs t b⟩
end
theorem keeps_froz {H : HS} {s s' : Shared} (k : Keeps s s') : Froz H s.heap H s'.heap := by
  obtain ⟨h',tk,rfl,k⟩ := k
  exact fun b o n e => ⟨n,k b o e⟩
theorem Rep.keeps {H : HS} {s s' : Shared} {x : PV} {v : Value} (r : Rep H s.heap x v) (k : Keeps s s') : Rep H s'.heap x v := rep_froz (keeps_froz k) x v r
theorem RepL.keeps {H : HS} {s s' : Shared} {x : List PV} {v : List Value} (r : RepL H s.heap x v) (k : Keeps s s') : RepL H s'.heap x v := repL_froz (keeps_froz k) x v r
theorem keeps_refl (s : Shared) : Keeps s s := ⟨s.heap,s.toks,rfl,fun _ _ e => e⟩
theorem keeps_tr {s s' s'' : Shared} (x : Keeps s s') (y : Keeps s' s'') : Keeps s s'' := by
  obtain ⟨h',tk,rfl,k⟩ := x
  obtain ⟨h'',tk',rfl,k'⟩ := y
  exact ⟨h'',tk',rfl,fun b o e => k' b o (k b o e)⟩
theorem keeps_get {s s' : Shared} (x : Keeps s s') : ∀ b o,s.heap.get? b = some o → s'.heap.get? b = some o := by
  obtain ⟨h',tk,rfl,k⟩ := x; exact k
theorem keeps_toks (s : Shared) (tk : Nat) : Keeps s { s with toks := tk } := ⟨s.heap,tk,rfl,fun _ _ e => e⟩
noncomputable def Grows (s s' : Shared) : Prop := Keeps s s' ∧ s.heap.objs.size ≤ s'.heap.objs.size
theorem RepL.length {H : HS} {h : Heap} : ∀ {xs : List PV} {vs : List Value},RepL H h xs vs → vs.length = xs.length
  | [],vs,r => by rw [RepL] at r; subst r; rfl
  | x :: xs,vs,r => by
    rw [RepL] at r
    obtain ⟨v,t,rfl,a,b⟩ := r
    simp [RepL.length b]
theorem RepL.get {H : HS} {h : Heap} : ∀ {xs : List PV} {vs : List Value} {i : Nat} {x : PV},RepL H h xs vs → xs[i]? = some x → ∃ v,vs[i]? = some v ∧ Rep H h x v
  | [],vs,i,x,r,e => by simp at e
  | y :: xs,vs,i,x,r,e => by
    rw [RepL] at r
    obtain ⟨v,t,rfl,a,b⟩ := r
    cases i with
    | zero => simp at e; subst e; exact ⟨v,by simp,a⟩
    | succ i => simp at e; obtain ⟨u,hu,ru⟩ := RepL.get b e; exact ⟨u,by simpa using hu,ru⟩
theorem RepL.append {H : HS} {h : Heap} : ∀ {xs ys : List PV} {vs us : List Value},RepL H h xs vs → RepL H h ys us → RepL H h (xs ++ ys) (vs ++ us)
  | [],ys,vs,us,r,q => by rw [RepL] at r; subst r; simpa using q
  | x :: xs,ys,vs,us,r,q => by
    rw [RepL] at r
    obtain ⟨v,t,rfl,a,b⟩ := r
    rw [List.cons_append,RepL]
    exact ⟨v,t ++ us,rfl,a,RepL.append b q⟩
theorem RepL.nil {H : HS} {h : Heap} : RepL H h [] [] := by rw [RepL]
theorem RepL.cons {H : HS} {h : Heap} {x : PV} {xs : List PV} {v : Value} {vs : List Value} (a : Rep H h x v) (b : RepL H h xs vs) : RepL H h (x :: xs) (v :: vs) := by
  rw [RepL]; exact ⟨v,vs,rfl,a,b⟩
theorem RepL.set {H : HS} {h : Heap} : ∀ {xs : List PV} {vs : List Value} {i : Nat} {x : PV} {v : Value},RepL H h xs vs → Rep H h x v → RepL H h (xs.set i x) (vs.set i v)
  | [],vs,i,x,v,r,q => by rw [RepL] at r; subst r; simpa using RepL.nil
  | y :: xs,vs,i,x,v,r,q => by
    rw [RepL] at r
    obtain ⟨u,t,rfl,a,b⟩ := r
    cases i with
    | zero => simpa using RepL.cons q b
    | succ i => simpa using RepL.cons a (RepL.set b q)
theorem RepL.take {H : HS} {h : Heap} : ∀ {xs : List PV} {vs : List Value} (n : Nat),RepL H h xs vs → RepL H h (xs.take n) (vs.take n)
  | [],vs,n,r => by rw [RepL] at r; subst r; simpa using RepL.nil
  | y :: xs,vs,n,r => by
    rw [RepL] at r
    obtain ⟨u,t,rfl,a,b⟩ := r
    cases n with
    | zero => simpa using RepL.nil
    | succ n => simpa using RepL.cons a (RepL.take n b)
theorem RepL.drop {H : HS} {h : Heap} : ∀ {xs : List PV} {vs : List Value} (n : Nat),RepL H h xs vs → RepL H h (xs.drop n) (vs.drop n)
  | [],vs,n,r => by rw [RepL] at r; subst r; simpa using RepL.nil
  | y :: xs,vs,n,r => by
    rw [RepL] at r
    obtain ⟨u,t,rfl,a,b⟩ := r
    cases n with
    | zero => simpa using RepL.cons a b
    | succ n => simpa using RepL.drop n b
theorem RepL.reverse {H : HS} {h : Heap} : ∀ {xs : List PV} {vs : List Value},RepL H h xs vs → RepL H h xs.reverse vs.reverse
  | [],vs,r => by rw [RepL] at r; subst r; simpa using RepL.nil
  | y :: xs,vs,r => by
    rw [RepL] at r
    obtain ⟨u,t,rfl,a,b⟩ := r
    simpa using RepL.append (RepL.reverse b) (RepL.cons a RepL.nil)
theorem RepL.inv {H : HS} {h : Heap} {x : PV} {xs : List PV} {vs : List Value} (r : RepL H h (x :: xs) vs) : ∃ v t,vs = v :: t ∧ Rep H h x v ∧ RepL H h xs t := by
  rw [RepL] at r; exact r
theorem RepL.inv_nil {H : HS} {h : Heap} {vs : List Value} (r : RepL H h [] vs) : vs = [] := by rw [RepL] at r; exact r
theorem Rep.int_inv {H : HS} {h : Heap} {i : Int} {v : Value} (r : Rep H h (.int i) v) : ∃ t,v = .int i t := by rw [Rep] at r; exact r
theorem Rep.bool_inv {H : HS} {h : Heap} {b : Bool} {v : Value} (r : Rep H h (.bool b) v) : v = .bool b := by rw [Rep] at r; exact r
theorem Rep.list_inv {H : HS} {h : Heap} {xs : List PV} {v : Value} (r : Rep H h (.list xs) v) :
    ∃ a vs,v = .ref a ∧ ¬ H a ∧ h.PlainList a (List.toArray vs) ∧ RepL H h xs vs ∧ xs.length ≤ lenMax := by rw [Rep] at r; exact r
theorem Rep.tup_inv {H : HS} {h : Heap} {xs : List PV} {v : Value} (r : Rep H h (.tup xs) v) :
    ∃ a vs,v = .ref a ∧ ¬ H a ∧ h.IsTuple a (List.toArray vs) ∧ RepL H h xs vs ∧ xs.length ≤ lenMax := by rw [Rep] at r; exact r
theorem Rep.int {H : HS} {h : Heap} (i : Int) (t : Tok) : Rep H h (.int i) (.int i t) := by rw [Rep]; exact ⟨t,rfl⟩
theorem Rep.bool {H : HS} {h : Heap} (b : Bool) : Rep H h (.bool b) (.bool b) := by rw [Rep]
theorem Rep.none {H : HS} {h : Heap} : Rep H h .none .none := by rw [Rep]
structure EnvOk (env : Env) : Prop where
  kind : env.scope.kind = .function
  glob : env.globals = mainGlobals
  blt : env.builtins = builtinsNs
  gen : env.scope.isGenerator = false
  cor : env.scope.isCoroutine = false
structure Room (A : Around) (lev : Nat) : Prop where
  handled : A.handled = none
  dep : A.depth + lev + 150 < recursionLimit
  uni : A.units + 20 * lev + 100 < cLine
  fr : ∃ env l,A.frames = some (env :: l) ∧ EnvOk env
theorem Room.down {A : Around} {n k : Nat} (r : Room A n) (h : k ≤ n) : Room A k := ⟨r.1,by have := r.2; lia,by have := r.3; lia,r.4⟩
theorem Room.deeper {A : Around} {n : Nat} {env : Env} (r : Room A (n + 1)) (ok : EnvOk env) : Room (A.deeper env) n := by
  obtain ⟨e,l,he,_⟩ := r.4
  exact ⟨r.1,by have := r.2; show A.depth + 1 + n + 150 < _; lia,by have := r.3; show A.units + 3 + 20 * n + 100 < _; lia,
    ⟨env,e :: l,by show A.frames.map (env :: ·) = _; rw [he]; rfl,ok⟩⟩
theorem Room.depth {A : Around} {n : Nat} (r : Room A n) : A.depth < recursionLimit := by have := r.2; lia
theorem Room.units {A : Around} {n : Nat} (r : Room A n) : A.units < cLine := by have := r.3; lia
theorem Room.depth100 {A : Around} {n : Nat} (r : Room A n) : A.depth + Builtin.pylongFrames < recursionLimit := by have := r.2; show A.depth + 100 < _; lia
structure Pk where
  prog : Program
  w : World
  mg : Str → Option Value
  mb : Str → Option Value
  hp : Heap
structure PGok (P : Pk) : Prop where
  g : P.hp.Ns mainGlobals P.mg
  b : P.hp.Ns builtinsNs P.mb
  nolimit : P.hp.NoLimit
  seer : P.hp.NoSeer
  builtins : ∀ x : Str,x ≠ "__name__" → P.mb x = bootBuiltins x
  tree : P.prog.given.tree = none
structure PG (P : Pk) (h : Heap) : Prop where
  ok : PGok P
  ext : ∀ b o,P.hp.get? b = some o → h.get? b = some o
theorem PG.g {P : Pk} {h : Heap} (p : PG P h) : h.Ns mainGlobals P.mg := p.ok.g.keeps p.ext
theorem PG.b {P : Pk} {h : Heap} (p : PG P h) : h.Ns builtinsNs P.mb := p.ok.b.keeps p.ext
theorem PG.nolimit {P : Pk} {h : Heap} (p : PG P h) : h.NoLimit := p.ok.nolimit.keeps p.ext
theorem PG.seer {P : Pk} {h : Heap} (p : PG P h) : h.NoSeer := p.ok.seer.keeps p.ext
theorem PG.builtins {P : Pk} {h : Heap} (p : PG P h) : ∀ x : Str,x ≠ "__name__" → P.mb x = bootBuiltins x := p.ok.builtins
theorem PG.kin {P : Pk} {h : Heap} (p : PG P h) (a : Addr) (o : Obj) (e : P.hp.get? a = some o) : h.get? a = some o := p.ext a o e
theorem PG.tree {P : Pk} {h : Heap} (p : PG P h) : P.prog.given.tree = none := p.ok.tree
theorem PG.keeps {P : Pk} {h h' : Heap} (p : PG P h) (k : ∀ b o,h.get? b = some o → h'.get? b = some o) : PG P h' :=
  ⟨p.ok,fun b o e => k b o (p.ext b o e)⟩
theorem PG.pylong {P : Pk} {A : Around} {n : Nat} {s : Shared} (p : PG P s.heap) (r : Room A n) : PylongRoom (model P.prog P.w) A s := by
  obtain ⟨env,l,he,ok⟩ := r.fr
  exact PylongRoom.of p.nolimit r.depth100 (SeerAt.of p.seer p.tree he ok.gen ok.cor ok.blt ok.glob)
noncomputable def HB (H : HS) (h : Heap) : Prop := ∀ b,H b → ∃ o,h.get? b = some o
theorem HB.keeps {H : HS} {h h' : Heap} (x : HB H h) (k : ∀ b o,h.get? b = some o → h'.get? b = some o) : HB H h' := fun b hb => let ⟨o,e⟩ := x b hb; ⟨o,k b o e⟩
theorem HB.new {H : HS} {h : Heap} (x : HB H h) : ¬ H h.objs.size := fun hb => by
  obtain ⟨o,e⟩ := x _ hb
  exact Nat.lt_irrefl _ (Heap.lt_size e)
theorem HB.fresh {H : HS} {h : Heap} (x : HB H h) {a : Addr} (e : h.get? a = none) : ¬ H a := fun hb => by
  obtain ⟨o,e'⟩ := x _ hb
  rw [e] at e'; cases e'
noncomputable def vl (env : Env) (m cm : Str → Option Value) (x : Str) : Option Value := if env.kindOf x = some .local then m x else cm x
noncomputable def SlotRep (H : HS) (h : Heap) (v : Option Value) (a : Addr) : Slot → Prop
  | .unset => True
  | .val x => ∃ u,v = some u ∧ Rep H h x u
  | .own xs => v = some (.ref a) ∧ H a ∧ ∃ vs,h.PlainList a (List.toArray vs) ∧ RepL H h xs vs
structure Vars (env : Env) (ctx : List Str) (H : HS) (σ : Sl) (h : Heap) (m cm : Str → Option Value) (ad : Nat → Addr) : Prop where
  ns : h.Ns env.locals m
  cells : ∀ x c,env.cells.lookup x = some c → h.IsCell c (cm x)
  slot : ∀ (i : Nat) (x : Str) (sl : Slot),ctx[i]? = some x → σ[i]? = some sl → SlotRep H h (vl env m cm x) (ad i) sl
theorem SlotRep.keeps {H : HS} {h h' : Heap} {v : Option Value} {a : Addr} {sl : Slot} (r : SlotRep H h v a sl) (k : ∀ b o,h.get? b = some o → h'.get? b = some o) : SlotRep H h' v a sl := by
  have f : Froz H h H h' := fun b o n e => ⟨n,k b o e⟩
  cases sl with
  | unset => trivial
  | val x => obtain ⟨u,e,r⟩ := r; exact ⟨u,e,rep_froz f _ _ r⟩
  | own xs => obtain ⟨e,ha,vs,p,r⟩ := r; exact ⟨e,ha,vs,isList_mono p fun o e => k a o e,repL_froz f _ _ r⟩
theorem Vars.keeps {env : Env} {ctx : List Str} {H : HS} {σ : Sl} {h h' : Heap} {m cm : Str → Option Value} {ad : Nat → Addr} (v : Vars env ctx H σ h m cm ad)
    (k : ∀ b o,h.get? b = some o → h'.get? b = some o) : Vars env ctx H σ h' m cm ad :=
  ⟨v.ns.keeps k,fun x c e => (v.cells x c e).keeps k,fun i x sl a b => (v.slot i x sl a b).keeps k⟩
structure St (P : Pk) (lev : Nat) (env : Env) (ctx : List Str) (A : Around) (H : HS) (σ : Sl) (s : Shared) (m cm : Str → Option Value) (ad : Nat → Addr) : Prop where
  room : Room A lev
  pg : PG P s.heap
  hb : HB H s.heap
  ok : EnvOk env
  vars : Vars env ctx H σ s.heap m cm ad
theorem St.keeps {P : Pk} {lev : Nat} {env : Env} {ctx : List Str} {A : Around} {H : HS} {σ : Sl} {s s' : Shared} {m cm : Str → Option Value} {ad : Nat → Addr}
    (x : St P lev env ctx A H σ s m cm ad) (k : Keeps s s') : St P lev env ctx A H σ s' m cm ad :=
  ⟨x.room,x.pg.keeps (keeps_get k),x.hb.keeps (keeps_get k),x.ok,x.vars.keeps (keeps_get k)⟩
noncomputable def Ev (P : Pk) (lev : Nat) (env : Env) (ctx : List Str) (e : Expr) (d : Den) : Prop :=
  ∀ (A : Around) (H : HS) (σ : Sl) (s : Shared) (m cm : Str → Option Value) (ad : Nat → Addr) (pv : PV) (Q : Value → Shared → Prop) (E : Value → Shared → Prop),
    St P lev env ctx A H σ s m cm ad → d σ = some pv → (∀ v s',Keeps s s' → Rep H s'.heap pv v → Q v s') → wpAny (model P.prog P.w) A (eval e env) Q E s
noncomputable def Ts (P : Pk) (lev : Nat) (env : Env) (ctx : List Str) (e : Expr) (d : TDen) : Prop :=
  ∀ (A : Around) (H : HS) (σ : Sl) (s : Shared) (m cm : Str → Option Value) (ad : Nat → Addr) (b : Bool) (Q : Bool → Shared → Prop) (E : Value → Shared → Prop),
    St P lev env ctx A H σ s m cm ad → d σ = some b → (∀ s',Keeps s s' → Q b s') → wpAny (model P.prog P.w) A (PySem.isTrue e env (eval e env)) Q E s
noncomputable def Op2 (P : Pk) (t : Value → Value → Sem Value) (f : PV → PV → Option PV) : Prop :=
  ∀ (A : Around) (lev : Nat) (H : HS) (s : Shared) (x y r : PV) (a b : Value) (Q : Value → Shared → Prop) (E : Value → Shared → Prop),
    Room A lev → PG P s.heap → HB H s.heap → Rep H s.heap x a → Rep H s.heap y b → f x y = some r →
    (∀ v s',Keeps s s' → Rep H s'.heap r v → Q v s') → wpAny (model P.prog P.w) A (t a b) Q E s
noncomputable def Op1 (P : Pk) (t : Value → Sem Value) (f : PV → Option PV) : Prop :=
  ∀ (A : Around) (lev : Nat) (H : HS) (s : Shared) (x r : PV) (a : Value) (Q : Value → Shared → Prop) (E : Value → Shared → Prop),
    Room A lev → PG P s.heap → HB H s.heap → Rep H s.heap x a → f x = some r →
    (∀ v s',Keeps s s' → Rep H s'.heap r v → Q v s') → wpAny (model P.prog P.w) A (t a) Q E s
noncomputable def OpC (P : Pk) (op : CmpOp) (f : PV → PV → Option Bool) : Prop :=
  ∀ (A : Around) (lev : Nat) (H : HS) (s : Shared) (x y : PV) (r : Bool) (a b : Value) (Q : Value → Shared → Prop) (E : Value → Shared → Prop),
    Room A lev → PG P s.heap → HB H s.heap → Rep H s.heap x a → Rep H s.heap y b → f x y = some r →
    (∀ s',Keeps s s' → Q (.bool r) s') → wpAny (model P.prog P.w) A (compareOp op a b) Q E s
noncomputable def Fn (P : Pk) (lev : Nat) (f : Str) (d : List PV → Option PV) : Prop :=
  ∃ (a : Addr) (fd : FuncData),P.mg f = some (.ref a) ∧
  (∃ o,P.hp.get? a = some o ∧ o.data = .func fd) ∧
  ∀ (A : Around) (H : HS) (s : Shared) (xs : List PV) (r : PV) (vs : List Value) (Q : Value → Shared → Prop) (E : Value → Shared → Prop),
    Room A lev → PG P s.heap → HB H s.heap → RepL H s.heap xs vs → d xs = some r →
    (∀ v s',Keeps s s' → Rep H s'.heap r v → Q v s') → wpAny (model P.prog P.w) A (PySem.call (.ref a) vs) Q E s
end Mine
end
section
open PySem PySem.W PyProof.Rows PySem.Calls
namespace Mine
section
variable {P : Pk} {lev : Nat} {env : Env} {ctx : List Str}
theorem vr_some {i : Nat} {σ : Sl} {pv : PV} (h : vr i σ = some pv) : σ[i]? = some (.val pv) := by
  unfold vr at h
  split at h
  · cases h; assumption
  · cases h
theorem ev_local {i : Nat} {x : Str} {pos : Pos} (hi : ctx[i]? = some x) (hl : env.kindOf x = some .local) (hd : (x == ("__debug__" : Str)) = false) :
    Ev P lev env ctx (.Name x pos) (vr i) := fun A H σ s m cm ad pv Q E S h k => by
  obtain ⟨u,hu,r⟩ := S.vars.slot i x _ hi (vr_some h)
  unfold vl at hu; rw [if_pos hl] at hu
  exact wpAny_Name (wpAny_loadName_local S.ok.kind hl S.vars.ns hu (k u s (keeps_refl s) r)) hd
theorem ev_cell {i : Nat} {x : Str} {pos : Pos} (hi : ctx[i]? = some x) (hl : env.kindOf x = some .cell) (hc : (env.cells.lookup x).isSome = true) (hd : (x == ("__debug__" : Str)) = false) :
    Ev P lev env ctx (.Name x pos) (vr i) := fun A H σ s m cm ad pv Q E S h k => by
  obtain ⟨u,hu,r⟩ := S.vars.slot i x _ hi (vr_some h)
  obtain ⟨c,hc⟩ := Option.isSome_iff_exists.mp hc
  unfold vl at hu; rw [if_neg (by rw [hl]; decide)] at hu
  have := S.vars.cells x c hc
  rw [hu] at this
  exact wpAny_Name (wpAny_loadName_cell S.ok.kind hl hc this (k u s (keeps_refl s) r)) hd
theorem ev_free {i : Nat} {x : Str} {pos : Pos} (hi : ctx[i]? = some x) (hl : env.kindOf x = some .free) (hc : (env.cells.lookup x).isSome = true) (hd : (x == ("__debug__" : Str)) = false)
    (hn : (x == ("__classdict__" : Str)) = false) :
    Ev P lev env ctx (.Name x pos) (vr i) := fun A H σ s m cm ad pv Q E S h k => by
  obtain ⟨u,hu,r⟩ := S.vars.slot i x _ hi (vr_some h)
  obtain ⟨c,hc⟩ := Option.isSome_iff_exists.mp hc
  unfold vl at hu; rw [if_neg (by rw [hl]; decide)] at hu
  have := S.vars.cells x c hc
  rw [hu] at this
  exact wpAny_Name (wpAny_loadName_free S.ok.kind hl hc this (k u s (keeps_refl s) r) hn) hd
theorem ev_int {i : Int} {k : Nat} {pos : Pos} : Ev P lev env ctx (.Constant (.int i) k pos) (ci i) := fun A H σ s m cm ad pv Q E S h c => by
  unfold ci at h; cases h
  exact wpAny_Constant_int (c _ _ (keeps_toks _ _) (Rep.int i _))
theorem ev_none {k : Nat} {pos : Pos} : Ev P lev env ctx (.Constant .none k pos) (cst .none) := fun A H σ s m cm ad pv Q E S h c => by
  unfold cst at h; cases h
  exact wpAny_Constant_none (c _ _ (keeps_refl _) Rep.none)
theorem ev_bool {b : Bool} {k : Nat} {pos : Pos} : Ev P lev env ctx (.Constant (.bool b) k pos) (cst (.bool b)) := fun A H σ s m cm ad pv Q E S h c => by
  unfold cst at h; cases h
  exact wpAny_Constant_bool (c _ _ (keeps_refl _) (Rep.bool b))
theorem ev_bin {l r : Expr} {op : Operator} {pos : Pos} {f : PV → PV → Option PV} {dl dr : Den} (hl : Ev P lev env ctx l dl) (hr : Ev P lev env ctx r dr) (ho : Op2 P (binaryOp op) f) :
    Ev P lev env ctx (.BinOp l op r pos) (bin f dl dr) := fun A H σ s m cm ad pv Q E S h c => by
  unfold bin at h
  split at h
  · cases h
  · rename_i x hx
    split at h
    · cases h
    · rename_i y hy
      refine wpAny_BinOp (hl A H σ s m cm ad x _ E S hx fun va s₁ k₁ ra => ?_)
      refine hr A H σ s₁ m cm ad y _ E (S.keeps k₁) hy fun vb s₂ k₂ rb => ?_
      exact ho A lev H s₂ x y pv va vb Q E S.room (S.keeps (keeps_tr k₁ k₂)).pg (S.keeps (keeps_tr k₁ k₂)).hb (ra.keeps k₂) rb h fun v s₃ k₃ rv => c v s₃ (keeps_tr (keeps_tr k₁ k₂) k₃) rv
theorem ev_una {x : Expr} {op : UnaryOp} {pos : Pos} {f : PV → Option PV} {d : Den} (hx : Ev P lev env ctx x d) (ho : Op1 P (unaryOp op) f) :
    Ev P lev env ctx (.UnaryOp op x pos) (una f d) := fun A H σ s m cm ad pv Q E S h c => by
  unfold una at h
  split at h
  · cases h
  · rename_i y hy
    refine wpAny_UnaryOp (hx A H σ s m cm ad y _ E S hy fun va s₁ k₁ ra => ?_)
    exact ho A lev H s₁ y pv va Q E S.room (S.keeps k₁).pg (S.keeps k₁).hb ra h fun v s₂ k₂ rv => c v s₂ (keeps_tr k₁ k₂) rv
theorem ev_if {t a b : Expr} {pos : Pos} {dt : TDen} {da db : Den} (ht : Ts P lev env ctx t dt) (ha : Ev P lev env ctx a da) (hb : Ev P lev env ctx b db) :
    Ev P lev env ctx (.IfExp t a b pos) (ifx dt da db) := fun A H σ s m cm ad pv Q E S h c => by
  unfold ifx at h
  split at h
  · cases h
  · rename_i e
    refine wpAny_IfExp (ht A H σ s m cm ad true _ E S e fun s₁ k₁ => ?_)
    rw [if_pos rfl]
    exact ha A H σ s₁ m cm ad pv Q E (S.keeps k₁) h fun v s₂ k₂ r => c v s₂ (keeps_tr k₁ k₂) r
  · rename_i e
    refine wpAny_IfExp (ht A H σ s m cm ad false _ E S e fun s₁ k₁ => ?_)
    rw [if_neg (by decide)]
    exact hb A H σ s₁ m cm ad pv Q E (S.keeps k₁) h fun v s₂ k₂ r => c v s₂ (keeps_tr k₁ k₂) r
theorem ts_cmp {l r : Expr} {op : CmpOp} {pos : Pos} {f : PV → PV → Option Bool} {dl dr : Den} (hl : Ev P lev env ctx l dl) (hr : Ev P lev env ctx r dr) (ho : OpC P op f)
    (hm : behindInMarks op r = false) :
    Ts P lev env ctx (.Compare l [op] [r] pos) (tcmp f dl dr) := fun A H σ s m cm ad b Q E S h c => by
  unfold tcmp at h
  split at h
  · cases h
  · rename_i x hx
    split at h
    · cases h
    · rename_i y hy
      refine wpAny_isTrue_Compare1 (hl A H σ s m cm ad x _ E S hx fun va s₁ k₁ ra => ?_) hm
      refine hr A H σ s₁ m cm ad y _ E (S.keeps k₁) hy fun vb s₂ k₂ rb => ?_
      exact ho A lev H s₂ x y b va vb _ E S.room (S.keeps (keeps_tr k₁ k₂)).pg (S.keeps (keeps_tr k₁ k₂)).hb (ra.keeps k₂) rb h fun s₃ k₃ => wpAny_truthy_bool (c s₃ (keeps_tr (keeps_tr k₁ k₂) k₃))
theorem ev_cmp {l r : Expr} {op : CmpOp} {pos : Pos} {f : PV → PV → Option Bool} {dl dr : Den} (hl : Ev P lev env ctx l dl) (hr : Ev P lev env ctx r dr) (ho : OpC P op f)
    (hm : behindInMarks op r = false) :
    Ev P lev env ctx (.Compare l [op] [r] pos) (vtst (tcmp f dl dr)) := fun A H σ s m cm ad pv Q E S h c => by
  unfold vtst tcmp at h
  split at h
  · cases h
  · rename_i b h'
    cases h
    split at h'
    · cases h'
    · rename_i x hx
      split at h'
      · cases h'
      · rename_i y hy
        refine wpAny_Compare1 (hl A H σ s m cm ad x _ E S hx fun va s₁ k₁ ra => ?_) hm
        refine hr A H σ s₁ m cm ad y _ E (S.keeps k₁) hy fun vb s₂ k₂ rb => ?_
        exact ho A lev H s₂ x y b va vb _ E S.room (S.keeps (keeps_tr k₁ k₂)).pg (S.keeps (keeps_tr k₁ k₂)).hb (ra.keeps k₂) rb h' fun s₃ k₃ => c _ s₃ (keeps_tr (keeps_tr k₁ k₂) k₃) (Rep.bool b)
theorem ts_not {x : Expr} {pos : Pos} {d : TDen} (hx : Ts P lev env ctx x d) : Ts P lev env ctx (.UnaryOp .Not x pos) (tnot d) := fun A H σ s m cm ad b Q E S h c => by
  unfold tnot at h
  split at h
  · cases h
  · rename_i b' hb
    cases h
    exact wpAny_isTrue_Not (hx A H σ s m cm ad b' _ E S hb fun s₁ k₁ => c s₁ k₁)
noncomputable def TsL (P : Pk) (lev : Nat) (env : Env) (ctx : List Str) (op : BoolOp) (es : List Expr) (d : TDen) : Prop :=
  ∀ (A : Around) (H : HS) (σ : Sl) (s : Shared) (m cm : Str → Option Value) (ad : Nat → Addr) (b : Bool) (Q : Bool → Shared → Prop) (E : Value → Shared → Prop),
    St P lev env ctx A H σ s m cm ad → d σ = some b → (∀ s',Keeps s s' → Q b s') → wpAny (model P.prog P.w) A (allTrue op es env) Q E s
theorem tsl_and1 {x : Expr} {d : TDen} (hx : Ts P lev env ctx x d) : TsL P lev env ctx .And [x] d := fun A H σ s m cm ad b Q E S h c => by
  refine wpAny_allTrue_And_cons (hx A H σ s m cm ad b _ E S h fun s₁ k₁ => ?_)
  cases b with
  | true => rw [if_pos rfl]; exact wpAny_allTrue_And_nil (c s₁ k₁)
  | false => rw [if_neg (by decide)]; exact c s₁ k₁
theorem tsl_and {x y : Expr} {es : List Expr} {d d' : TDen} (hx : Ts P lev env ctx x d) (hr : TsL P lev env ctx .And (y :: es) d') : TsL P lev env ctx .And (x :: y :: es) (tand d d') := fun A H σ s m cm ad b Q E S h c => by
  unfold tand at h
  split at h
  · cases h
  · rename_i e
    refine wpAny_allTrue_And_cons (hx A H σ s m cm ad true _ E S e fun s₁ k₁ => ?_)
    rw [if_pos rfl]; exact hr A H σ s₁ m cm ad b Q E (S.keeps k₁) h fun s₂ k₂ => c s₂ (keeps_tr k₁ k₂)
  · rename_i e
    cases h
    refine wpAny_allTrue_And_cons (hx A H σ s m cm ad false _ E S e fun s₁ k₁ => ?_)
    rw [if_neg (by decide)]; exact c s₁ k₁
theorem tsl_or1 {x : Expr} {d : TDen} (hx : Ts P lev env ctx x d) : TsL P lev env ctx .Or [x] d := fun A H σ s m cm ad b Q E S h c => by
  refine wpAny_allTrue_Or_cons (hx A H σ s m cm ad b _ E S h fun s₁ k₁ => ?_)
  cases b with
  | true => rw [if_pos rfl]; exact c s₁ k₁
  | false => rw [if_neg (by decide)]; exact wpAny_allTrue_Or_nil (c s₁ k₁)
theorem tsl_or {x y : Expr} {es : List Expr} {d d' : TDen} (hx : Ts P lev env ctx x d) (hr : TsL P lev env ctx .Or (y :: es) d') : TsL P lev env ctx .Or (x :: y :: es) (tor d d') := fun A H σ s m cm ad b Q E S h c => by
  unfold tor at h
  split at h
  · cases h
  · rename_i e
    cases h
    refine wpAny_allTrue_Or_cons (hx A H σ s m cm ad true _ E S e fun s₁ k₁ => ?_)
    rw [if_pos rfl]; exact c s₁ k₁
  · rename_i e
    refine wpAny_allTrue_Or_cons (hx A H σ s m cm ad false _ E S e fun s₁ k₁ => ?_)
    rw [if_neg (by decide)]; exact hr A H σ s₁ m cm ad b Q E (S.keeps k₁) h fun s₂ k₂ => c s₂ (keeps_tr k₁ k₂)
theorem ts_bool {op : BoolOp} {es : List Expr} {pos : Pos} {d : TDen} (h : TsL P lev env ctx op es d) : Ts P lev env ctx (.BoolOp op es pos) d := fun A H σ s m cm ad b Q E S e c =>
  wpAny_isTrue_BoolOp (h A H σ s m cm ad b Q E S e c)
theorem ts_val {e : Expr} {d : Den} (he : Ev P lev env ctx e d)
    (hw : ∀ whole : Sem Value,PySem.isTrue e env whole = (do let v ← whole; standAt e.pos; holding [v] (truthy v))) : Ts P lev env ctx e (tval d) := fun A H σ s m cm ad b Q E S h c => by
  unfold tval at h
  split at h
  · rename_i b' e'
    cases h
    refine wpAny_isTrue_value (he A H σ s m cm ad _ _ E S e' fun v s₁ k₁ r => ?_) (hw _)
    rw [r.bool_inv]
    exact wpAny_truthy_bool (c s₁ k₁)
  · cases h
noncomputable def EvL (P : Pk) (lev : Nat) (env : Env) (ctx : List Str) (es : List Expr) (ds : List Den) : Prop :=
  ∀ (A : Around) (H : HS) (σ : Sl) (s : Shared) (m cm : Str → Option Value) (ad : Nat → Addr) (xs : List PV) (pos : Pos) (Q : List Value → Shared → Prop) (E : Value → Shared → Prop),
    St P lev env ctx A H σ s m cm ad → evs ds σ = some xs → (∀ vs s',Keeps s s' → RepL H s'.heap xs vs → Q vs s') → wpAny (model P.prog P.w) A (spliced (backTo pos (starEach es env))) Q E s
theorem evl_nil : EvL P lev env ctx [] [] := fun A H σ s m cm ad xs pos Q E S h c => by
  unfold evs at h; cases h
  exact wpAny_items_nil (c _ _ (keeps_refl s) RepL.nil)
theorem evl_cons {e : Expr} {es : List Expr} {d : Den} {ds : List Den} (he : Ev P lev env ctx e d) (hr : EvL P lev env ctx es ds)
    (hs : starEach (e :: es) env = (false,eval e env) :: starEach es env) : EvL P lev env ctx (e :: es) (d :: ds) := fun A H σ s m cm ad xs pos Q E S h c => by
  unfold evs at h
  split at h
  · cases h
  · rename_i x hx
    split at h
    · cases h
    · rename_i ys hy
      cases h
      refine wpAny_items_cons (he A H σ s m cm ad x _ E S hx fun v s₁ k₁ r => ?_) hs
      exact hr A H σ s₁ m cm ad ys pos _ E (S.keeps k₁) hy fun vs s₂ k₂ rs => c _ s₂ (keeps_tr k₁ k₂) (RepL.cons (r.keeps k₂) rs)
theorem keeps_push (s : Shared) (o : Obj) : Keeps s { s with heap := s.heap.push o } := ⟨_,_,rfl,fun _ _ e => Heap.get?_push_of_some _ e⟩
theorem evs_length {ds : List Den} {σ : Sl} : ∀ {xs : List PV},evs ds σ = some xs → xs.length = ds.length := by
  induction ds with
  | nil => intro xs h; unfold evs at h; cases h; rfl
  | cons d r ih =>
    intro xs h
    unfold evs at h
    split at h
    · cases h
    · split at h
      · cases h
      · rename_i hy; cases h; simp [ih hy]
theorem sizeLine_val : sizeLine = 2 ^ 24 := rfl
theorem ev_list {es : List Expr} {pos : Pos} {ds : List Den} (h : EvL P lev env ctx es ds) (hn : ds.length ≤ 1000) : Ev P lev env ctx (.List es pos) (lst ds) := fun A H σ s m cm ad pv Q E S e c => by
  unfold lst at e
  split at e
  · cases e
  · rename_i xs hx
    cases e
    have hl := evs_length hx
    refine wpAny_List (h A H σ s m cm ad xs pos _ E S hx fun vs s₁ k₁ rs => ?_)
    have hv := rs.length
    have hb := (S.keeps k₁).hb
    refine ⟨by rw [sizeLine_val]; lia,c _ _ (keeps_tr k₁ (keeps_push _ _)) ?_⟩
    rw [Rep]
    exact ⟨_,vs,rfl,hb.new,⟨0,Heap.get?_push_size _ rfl⟩,rs.keeps (keeps_push _ _),by unfold lenMax; lia⟩
theorem ev_tuple {es : List Expr} {k : Nat} {pos : Pos} {ds : List Den} (h : EvL P lev env ctx es ds) (hn : ds.length ≤ 1000) : Ev P lev env ctx (.Tuple es k pos) (tpl ds) := fun A H σ s m cm ad pv Q E S e c => by
  unfold tpl at e
  split at e
  · cases e
  · rename_i xs hx
    cases e
    have hl := evs_length hx
    refine wpAny_Tuple (h A H σ s m cm ad xs pos _ E S hx fun vs s₁ k₁ rs => ?_)
    have hv := rs.length
    have hb := (S.keeps k₁).hb
    refine ⟨by rw [sizeLine_val]; lia,c _ _ (keeps_tr k₁ (keeps_push _ _)) ?_⟩
    rw [Rep]
    exact ⟨_,vs,rfl,hb.new,⟨_,Heap.get?_push_size _ rfl,rfl,0,rfl⟩,rs.keeps (keeps_push _ _),by unfold lenMax; lia⟩
end
end Mine
end
section
open PySem PySem.W PyProof.Rows PySem.Calls
namespace Mine
theorem intsAre_of {H : HS} {h : Heap} : ∀ {xs : List PV} {vs : List Value} {ns : List Int},RepL H h xs vs → intsOf xs = some ns → IntsAre vs ns
  | [],vs,ns,r,e => by
    rw [RepL] at r; subst r
    simp [intsOf] at e; subst e; exact .nil
  | x :: xs,vs,ns,r,e => by
    obtain ⟨v,t,rfl,a,b⟩ := r.inv
    cases x <;> simp [intsOf] at e
    obtain ⟨ms,hm,rfl⟩ := e
    obtain ⟨t,rfl⟩ := a.int_inv
    exact .cons _ t (intsAre_of b hm)
theorem mulOk {a b : Int} (ha : smB a = true) (hb : smB b = true) : IntMulOk a b := by
  have ha' : a.natAbs.log2 ≤ 1000000 := Nat.le_of_ble_eq_true ha
  have hb' : b.natAbs.log2 ≤ 1000000 := Nat.le_of_ble_eq_true hb
  have h1 : Builtin.Int.intBits a ≤ 1000001 := by unfold Builtin.Int.intBits; split <;> (first | decide | lia)
  have h2 : Builtin.Int.intBits b ≤ 1000001 := by unfold Builtin.Int.intBits; split <;> (first | decide | lia)
  intro hc
  rw [Bool.and_eq_true] at hc
  have := of_decide_eq_true hc.2
  have e : (bitsLine : Int) = 2 ^ 27 := rfl
  rw [e] at this
  lia
section
variable {P : Pk}
theorem op_add : Op2 P (binaryOp .Add) addV := fun A lev H s x y r a b Q E R G B ra rb e c => by
  unfold addV at e
  split at e
  · cases e
    obtain ⟨t,rfl⟩ := ra.int_inv
    obtain ⟨u,rfl⟩ := rb.int_inv
    exact add_int (c _ _ (keeps_toks _ _) (Rep.int _ _))
  · split at e
    · cases e
      rename_i xs ys hl
      obtain ⟨la,vs,rfl,na,pa,qa,sa⟩ := ra.list_inv
      obtain ⟨lb,us,rfl,nb,pb,qb,sb⟩ := rb.list_inv
      obtain ⟨n,ho⟩ := pa
      obtain ⟨n2,ho2⟩ := pb
      have l1 := qa.length
      have l2 := qb.length
      have hl' : xs.length + ys.length ≤ 1000000 := hl
      have e : vs.toArray ++ us.toArray = (vs ++ us).toArray := by simp
      refine concat_meets ⟨_,ho,rfl⟩ ⟨_,ho2,rfl⟩ noFill_list_add seq_list_add PySem.F.slot_list_add PySem.F.entry_list_add (PySem.F.args_list_add_2 _ _) (list_addW la lb vs.toArray us.toArray n n2 none none #[] #[] (by
        rw [sizeLine_val,List.size_toArray,List.size_toArray]; lia)) ⟨ho,ho2,?_⟩
      refine c _ _ (keeps_push _ _) ?_
      rw [Rep]
      refine ⟨_,vs ++ us,rfl,B.new,⟨0,?_⟩,(qa.append qb).keeps (keeps_push _ _),by simpa using hl⟩
      rw [e]; exact Heap.get?_push_size _ rfl
    · cases e
  · cases e
theorem op_sub : Op2 P (binaryOp .Sub) subV := fun A lev H s x y r a b Q E R G B ra rb e c => by
  unfold subV at e
  split at e
  · cases e
    obtain ⟨t,rfl⟩ := ra.int_inv
    obtain ⟨u,rfl⟩ := rb.int_inv
    exact sub_int (c _ _ (keeps_toks _ _) (Rep.int _ _))
  · rename_i p q
    cases e
    rw [ra.bool_inv,rb.bool_inv]
    refine sub_bool (c _ _ (keeps_toks _ _) ?_)
    have : ((if p then 1 else 0) - (if q then 1 else 0) : Int) = b2i p - b2i q := by cases p <;> cases q <;> rfl
    rw [this]; exact Rep.int _ _
  · cases e
theorem foldl_rep (v : Value) : ∀ (n : Nat) (acc : Array Value),List.foldl (fun x1 x2 => x1 ++ x2) acc (List.replicate n #[v]) = acc ++ (List.replicate n v).toArray
  | 0,acc => by simp
  | n + 1,acc => by
    rw [List.replicate_succ,List.foldl_cons,foldl_rep v n,List.replicate_succ]
    apply Array.ext'
    simp
theorem RepL.replicate {H : HS} {h : Heap} {x : PV} {v : Value} (r : Rep H h x v) : ∀ n,RepL H h (List.replicate n x) (List.replicate n v)
  | 0 => RepL.nil
  | n + 1 => by rw [List.replicate_succ,List.replicate_succ]; exact RepL.cons r (RepL.replicate r n)
theorem op_mul : Op2 P (binaryOp .Mult) mulV := fun A lev H s x y r a b Q E R G B ra rb e c => by
  unfold mulV at e
  split at e
  · split at e
    · rename_i h
      cases e
      rw [Bool.and_eq_true] at h
      obtain ⟨t,rfl⟩ := ra.int_inv
      obtain ⟨u,rfl⟩ := rb.int_inv
      exact PyProof.Rows.mul_int (c _ _ (keeps_toks _ _) (Rep.int _ _)) (mulOk h.1 h.2)
    · cases e
  · rename_i z k
    split at e
    · rename_i hk
      cases e
      obtain ⟨la,vs,rfl,na,pa,qa,sa⟩ := ra.list_inv
      obtain ⟨u,rfl⟩ := rb.int_inv
      obtain ⟨v,t,rfl,qv,qt⟩ := qa.inv
      have := qt.inv_nil; subst this
      obtain ⟨n,ho⟩ := pa
      have hk' : k.natAbs ≤ 1000000 := hk
      have hs1 : ([v].toArray).size = 1 := rfl
      refine wpAny_binaryOp_repeat_ref (T := "list") (U := "int") (by decide) ⟨_,ho,rfl⟩ (fun s' => typeIs_int s' k u) noFill_list_mul F.fills_int_mul F.slot_int_rmul repeat_list F.slot_int_index.lookup
        (call_meets F.slot_int_rmul (typeIs_int s k u) F.entry_int_rmul (F.args_int_rmul_2 _ _) (int___rmul___int_list k u la [v].toArray n)
          ⟨ho,rfl,⟨_,ho,rfl⟩,call_meets F.slot_list_mul ⟨_,ho,rfl⟩ F.entry_list_mul (F.args_list_mul_2 _ _)
            (AutoListH.list___mul___list_int_3 la [v].toArray n k u (by simp [Builtin.List.listFitsIndex]; lia) (by rw [hs1]; lia) (by simp only [Builtin.List.listTooLong,sizeLine_val,hs1]; rw [decide_eq_true_eq]; lia))
            ⟨ho,?_⟩⟩)
      refine c _ _ (keeps_push _ _) ?_
      rw [Rep]
      refine ⟨_,List.replicate k.toNat v,rfl,B.new,⟨0,?_⟩,(RepL.replicate qv _).keeps (keeps_push _ _),by simp [lenMax]; lia⟩
      have : List.foldl (fun x1 x2 => x1 ++ x2) #[] (List.replicate (if ([v].toArray).isEmpty = true then 0 else k.toNat) [v].toArray) = (List.replicate k.toNat v).toArray := by
        rw [if_neg (by simp)]
        show List.foldl (fun x1 x2 => x1 ++ x2) #[] (List.replicate k.toNat #[v]) = _
        rw [foldl_rep]; simp
      rw [this]; exact Heap.get?_push_size _ rfl
    · cases e
  · cases e
theorem op_fdiv : Op2 P (binaryOp .FloorDiv) fdivV := fun A lev H s x y r a b Q E R G B ra rb e c => by
  unfold fdivV at e
  split at e
  · split at e
    · cases e
    · rename_i h
      cases e
      obtain ⟨t,rfl⟩ := ra.int_inv
      obtain ⟨u,rfl⟩ := rb.int_inv
      exact floordiv_int h (c _ _ (keeps_toks _ _) (Rep.int _ _)) (Or.inr (G.pylong R))
  · cases e
theorem op_mod : Op2 P (binaryOp .Mod) modV := fun A lev H s x y r a b Q E R G B ra rb e c => by
  unfold modV at e
  split at e
  · split at e
    · cases e
    · rename_i h
      cases e
      obtain ⟨t,rfl⟩ := ra.int_inv
      obtain ⟨u,rfl⟩ := rb.int_inv
      exact mod_int' h (c _ _ (keeps_toks _ _) (Rep.int _ _))
  · cases e
theorem op_pow : Op2 P (binaryOp .Pow) powV := fun A lev H s x y r a b Q E R G B ra rb e c => by
  unfold powV at e
  split at e
  · split at e
    · rename_i i n h
      cases e
      obtain ⟨t,rfl⟩ := ra.int_inv
      obtain ⟨u,rfl⟩ := rb.int_inv
      refine pow_int h.1 ?_ (c _ _ (keeps_toks _ _) (Rep.int _ _))
      have h1 : Builtin.Int.intBits i ≤ 100001 := by unfold Builtin.Int.intBits; split <;> (first | decide | lia)
      have h2 : (Builtin.Int.intBits i : Int) * n ≤ 100001 * 1000 := by
        have := Int.mul_le_mul (show (Builtin.Int.intBits i : Int) ≤ 100001 by lia) h.2.1 h.1 (by decide)
        simpa using this
      lia
    · cases e
  · cases e
theorem op_neg : Op1 P (unaryOp .USub) negV := fun A lev H s x r a Q E R G B ra e c => by
  unfold negV at e
  split at e
  · cases e
    obtain ⟨t,rfl⟩ := ra.int_inv
    exact PyProof.Rows.neg_int (c _ _ (keeps_toks _ _) (Rep.int _ _))
  · cases e
theorem oc_eq : OpC P .Eq eqV := fun A lev H s x y r a b Q E R G B ra rb e c => by
  unfold eqV at e
  split at e
  · cases e
    obtain ⟨t,rfl⟩ := ra.int_inv
    obtain ⟨u,rfl⟩ := rb.int_inv
    exact PyProof.Rows.eq_int (c _ (keeps_refl _))
  · rename_i xs ys
    split at e
    · rename_i ns ms h1 h2
      cases e
      obtain ⟨la,vs,rfl,na,pa,qa,sa⟩ := ra.list_inv
      obtain ⟨lb,us,rfl,nb,pb,qb,sb⟩ := rb.list_inv
      refine eq_intsK (plain_isList pa) (intsAre_of qa h1) (plain_isList pb) (intsAre_of qb h2) (by have := R.uni; lia) (c _ (keeps_refl _))
    · cases e
  · cases e
    rw [Rep] at ra rb
    obtain ⟨t,rfl⟩ := ra
    obtain ⟨u,rfl⟩ := rb
    exact PyProof.Rows.eq_str (c _ (keeps_refl _))
  · cases e
theorem oc_ne : OpC P .NotEq neV := fun A lev H s x y r a b Q E R G B ra rb e c => by
  unfold neV eqV at e
  split at e
  · cases e
    obtain ⟨t,rfl⟩ := ra.int_inv
    obtain ⟨u,rfl⟩ := rb.int_inv
    exact PyProof.Rows.ne_int (c _ (keeps_refl _))
  · rename_i xs ys
    split at e
    · rename_i ns ms h1 h2
      cases e
      obtain ⟨la,vs,rfl,na,pa,qa,sa⟩ := ra.list_inv
      obtain ⟨lb,us,rfl,nb,pb,qb,sb⟩ := rb.list_inv
      refine ne_intsK (plain_isList pa) (intsAre_of qa h1) (plain_isList pb) (intsAre_of qb h2) (by have := R.uni; lia) (c _ (keeps_refl _))
    · cases e
  · cases e
    rw [Rep] at ra rb
    obtain ⟨t,rfl⟩ := ra
    obtain ⟨u,rfl⟩ := rb
    exact PyProof.Rows.ne_str (c _ (keeps_refl _))
  · cases e
theorem oc_lt : OpC P .Lt ltV := fun A lev H s x y r a b Q E R G B ra rb e c => by
  unfold ltV at e
  split at e
  · cases e
    obtain ⟨t,rfl⟩ := ra.int_inv
    obtain ⟨u,rfl⟩ := rb.int_inv
    exact PyProof.Rows.lt_int (c _ (keeps_refl _))
  · cases e
theorem oc_le : OpC P .LtE leV := fun A lev H s x y r a b Q E R G B ra rb e c => by
  unfold leV at e
  split at e
  · cases e
    obtain ⟨t,rfl⟩ := ra.int_inv
    obtain ⟨u,rfl⟩ := rb.int_inv
    exact PyProof.Rows.le_int (c _ (keeps_refl _))
  · cases e
theorem oc_gt : OpC P .Gt gtV := fun A lev H s x y r a b Q E R G B ra rb e c => by
  unfold gtV at e
  split at e
  · cases e
    obtain ⟨t,rfl⟩ := ra.int_inv
    obtain ⟨u,rfl⟩ := rb.int_inv
    exact PyProof.Rows.gt_int (c _ (keeps_refl _))
  · cases e
theorem oc_ge : OpC P .GtE geV := fun A lev H s x y r a b Q E R G B ra rb e c => by
  unfold geV at e
  split at e
  · cases e
    obtain ⟨t,rfl⟩ := ra.int_inv
    obtain ⟨u,rfl⟩ := rb.int_inv
    exact PyProof.Rows.ge_int (c _ (keeps_refl _))
  · cases e
end
end Mine
end
section
open PySem PySem.W PyProof.Rows PySem.Calls
namespace Mine
section
variable {P : Pk} {lev : Nat} {env : Env} {ctx : List Str}
theorem name_builtin {A : Around} {H : HS} {σ : Sl} {s : Shared} {m cm : Str → Option Value} {ad : Nat → Addr} {f : Str} {fv : Value} {p : Pos} {Q : Value → Shared → Prop} {E : Value → Shared → Prop}
    (S : St P lev env ctx A H σ s m cm ad) (hk : env.kindOf f = some .globalImplicit) (hm : P.mg f = none) (hb : bootBuiltins f = some fv) (hn : f ≠ ("__name__" : Str)) (hd : (f == ("__debug__" : Str)) = false)
    (h : Q fv s) : wpAny (model P.prog P.w) A (eval (.Name f p) env) Q E s :=
  Name_function_global S.ok.kind hk (loadGlobal_builtin (env := env) (S.ok.glob ▸ S.pg.g) hm (S.ok.blt ▸ S.pg.b) ((S.pg.builtins f hn).trans hb) h) hd
theorem name_def {A : Around} {H : HS} {σ : Sl} {s : Shared} {m cm : Str → Option Value} {ad : Nat → Addr} {f : Str} {fv : Value} {p : Pos} {Q : Value → Shared → Prop} {E : Value → Shared → Prop}
    (S : St P lev env ctx A H σ s m cm ad) (hk : env.kindOf f = some .globalImplicit) (hm : P.mg f = some fv) (hd : (f == ("__debug__" : Str)) = false)
    (h : Q fv s) : wpAny (model P.prog P.w) A (eval (.Name f p) env) Q E s :=
  Name_function_global S.ok.kind hk (loadGlobal_global (env := env) (S.ok.glob ▸ S.pg.g) hm h) hd
structure BiName (P : Pk) (env : Env) (f : Str) (fv : Value) : Prop where
  k : env.kindOf f = some .globalImplicit
  miss : P.mg f = none
  boot : bootBuiltins f = some fv
  nn : f ≠ ("__name__" : Str)
  nd : (f == ("__debug__" : Str)) = false
theorem eval_call_name (f : Str) (p : Pos) (args : List Expr) (pos : Pos) (env : Env) :
    eval (.Call (.Name f p) args [] pos) env = (do callWith pos (← eval (.Name f p) env) [] (backTo pos (starEach args env)) (backToKw pos (keywordEach [] env))) := by
  rfl
theorem backTo_plain {pos : Pos} : ∀ (es : List (Bool × Sem Value)),es.any (·.1) = false → (backTo pos es).any (·.1) = false := by
  intro es h
  unfold backTo
  rw [List.any_map]
  exact h
theorem wp_args {A : Around} {E : Value → Shared → Prop} {s : Shared} {f : Value} {e : Expr} {es : List Expr} {pos : Pos} {Q : Args → Shared → Prop} {M : Model}
    (hs : starEach (e :: es) env = (false,eval e env) :: starEach es env)
    (h : wpAny M A (spliced (backTo pos (starEach (e :: es) env))) (fun vs s' => Q ⟨vs,[]⟩ s') E s) :
    wpAny M A (evalArgs f true (backTo pos (starEach (e :: es) env)) []) Q E s := by
  rw [hs] at h ⊢
  exact evalArgs_plain h
theorem ev_bi {f : Str} {p : Pos} {e : Expr} {es : List Expr} {pos : Pos} {id : String} {ds : List Den} {g : List PV → Option PV} (N : BiName P env f (.builtin id)) (ha : EvL P lev env ctx (e :: es) ds)
    (hs : starEach (e :: es) env = (false,eval e env) :: starEach es env) (hp : (starEach (e :: es) env).any (·.1) = false)
    (ho : ∀ (A : Around) (lev : Nat) (H : HS) (s : Shared) (xs : List PV) (r : PV) (vs : List Value) (Q : Value → Shared → Prop) (E : Value → Shared → Prop),
      Room A lev → PG P s.heap → HB H s.heap → RepL H s.heap xs vs → g xs = some r → (∀ v s',Keeps s s' → Rep H s'.heap r v → Q v s') → wpAny (model P.prog P.w) A (PySem.call (.builtin id) vs) Q E s) :
    Ev P lev env ctx (.Call (.Name f p) (e :: es) [] pos) (call g ds) := fun A H σ s m cm ad pv Q E S h c => by
  unfold call at h
  split at h
  · cases h
  · rename_i xs hx
    rw [eval_call_name]
    refine wpAny_bind (name_builtin S N.k N.miss N.boot N.nn N.nd ?_)
    refine callWith_builtin (backTo_plain _ hp) (wp_args hs ?_)
    refine ha A H σ s m cm ad xs pos _ E S hx fun vs s₁ k₁ rs => ?_
    exact ho A lev H s₁ xs pv vs Q E S.room (S.keeps k₁).pg (S.keeps k₁).hb rs h fun v s₂ k₂ r => c v s₂ (keeps_tr k₁ k₂) r
theorem ev_ty {f : Str} {p : Pos} {e : Expr} {es : List Expr} {pos : Pos} {id : String} {ds : List Den} {g : List PV → Option PV} (N : BiName P env f (.type id)) (ha : EvL P lev env ctx (e :: es) ds)
    (hs : starEach (e :: es) env = (false,eval e env) :: starEach es env) (hp : (starEach (e :: es) env).any (·.1) = false)
    (ho : ∀ (A : Around) (lev : Nat) (H : HS) (s : Shared) (xs : List PV) (r : PV) (vs : List Value) (Q : Value → Shared → Prop) (E : Value → Shared → Prop),
      Room A lev → PG P s.heap → HB H s.heap → RepL H s.heap xs vs → g xs = some r → (∀ v s',Keeps s s' → Rep H s'.heap r v → Q v s') → wpAny (model P.prog P.w) A (PySem.call (.type id) vs) Q E s) :
    Ev P lev env ctx (.Call (.Name f p) (e :: es) [] pos) (call g ds) := fun A H σ s m cm ad pv Q E S h c => by
  unfold call at h
  split at h
  · cases h
  · rename_i xs hx
    rw [eval_call_name]
    refine wpAny_bind (name_builtin S N.k N.miss N.boot N.nn N.nd ?_)
    refine PySem.callWith_type (backTo_plain _ hp) (wp_args hs ?_)
    refine ha A H σ s m cm ad xs pos _ E S hx fun vs s₁ k₁ rs => ?_
    exact ho A lev H s₁ xs pv vs Q E S.room (S.keeps k₁).pg (S.keeps k₁).hb rs h fun v s₂ k₂ r => c v s₂ (keeps_tr k₁ k₂) r
theorem ev_def {f : Str} {p : Pos} {e : Expr} {es : List Expr} {pos : Pos} {ds : List Den} {d : List PV → Option PV} {lev' : Nat} (F : Fn P lev' f d) (hl : lev' ≤ lev) (hk : env.kindOf f = some .globalImplicit)
    (hd : (f == ("__debug__" : Str)) = false) (ha : EvL P lev env ctx (e :: es) ds)
    (hs : starEach (e :: es) env = (false,eval e env) :: starEach es env) :
    Ev P lev env ctx (.Call (.Name f p) (e :: es) [] pos) (call d ds) := fun A H σ s m cm ad pv Q E S h c => by
  unfold call at h
  split at h
  · cases h
  · rename_i xs hx
    obtain ⟨a,fd,hm,⟨o,ho,hof⟩,hf⟩ := F
    rw [eval_call_name]
    refine wpAny_bind (name_def S hk hm hd ?_)
    refine callWith_function (o := o) (fd := fd) (wp_args hs ?_)
    refine ha A H σ s m cm ad xs pos _ E S hx fun vs s₁ k₁ rs => ?_
    refine ⟨⟨(S.keeps k₁).pg.kin a o ho,hof⟩,?_⟩
    exact hf A H s₁ xs pv vs Q E (S.room.down hl) (S.keeps k₁).pg (S.keeps k₁).hb rs h fun v s₂ k₂ r => c v s₂ (keeps_tr k₁ k₂) r
noncomputable def l1 (f : PV → Option PV) : List PV → Option PV
  | [x] => f x
  | _ => none
noncomputable def l2 (f : PV → PV → Option PV) : List PV → Option PV
  | [x,y] => f x y
  | _ => none
theorem call_l1 (f : PV → Option PV) (d : Den) : call (l1 f) [d] = una f d := by
  funext σ
  simp only [call,evs,una]
  cases d σ <;> rfl
theorem call_l2 (f : PV → PV → Option PV) (d d' : Den) : call (l2 f) [d,d'] = bin f d d' := by
  funext σ
  simp only [call,evs,bin]
  cases d σ with
  | none => rfl
  | some x => cases d' σ <;> rfl
theorem ev_bi1 {f : Str} {p : Pos} {e : Expr} {pos : Pos} {id : String} {d : Den} {g : PV → Option PV} (N : BiName P env f (.builtin id)) (ha : Ev P lev env ctx e d)
    (hs : starEach [e] env = (false,eval e env) :: starEach [] env) (ho : Op1 P (fun v => PySem.call (.builtin id) [v]) g) :
    Ev P lev env ctx (.Call (.Name f p) [e] [] pos) (una g d) := by
  rw [← call_l1]
  refine ev_bi N (evl_cons ha evl_nil hs) hs (by rw [hs]; rfl) fun A lev H s xs r vs Q E R G B rs h c => ?_
  unfold l1 at h
  split at h
  · obtain ⟨v,t,rfl,rv,rt⟩ := rs.inv
    have := rt.inv_nil; subst this
    exact ho A lev H s _ r v Q E R G B rv h c
  · cases h
theorem ev_ty1 {f : Str} {p : Pos} {e : Expr} {pos : Pos} {id : String} {d : Den} {g : PV → Option PV} (N : BiName P env f (.type id)) (ha : Ev P lev env ctx e d)
    (hs : starEach [e] env = (false,eval e env) :: starEach [] env) (ho : Op1 P (fun v => PySem.call (.type id) [v]) g) :
    Ev P lev env ctx (.Call (.Name f p) [e] [] pos) (una g d) := by
  rw [← call_l1]
  refine ev_ty N (evl_cons ha evl_nil hs) hs (by rw [hs]; rfl) fun A lev H s xs r vs Q E R G B rs h c => ?_
  unfold l1 at h
  split at h
  · obtain ⟨v,t,rfl,rv,rt⟩ := rs.inv
    have := rt.inv_nil; subst this
    exact ho A lev H s _ r v Q E R G B rv h c
  · cases h
theorem ev_bi2 {f : Str} {p : Pos} {e e' : Expr} {pos : Pos} {id : String} {d d' : Den} {g : PV → PV → Option PV} (N : BiName P env f (.builtin id)) (ha : Ev P lev env ctx e d) (hb : Ev P lev env ctx e' d')
    (hs : starEach [e,e'] env = (false,eval e env) :: starEach [e'] env) (hs' : starEach [e'] env = (false,eval e' env) :: starEach [] env) (ho : Op2 P (fun v v' => PySem.call (.builtin id) [v,v']) g) :
    Ev P lev env ctx (.Call (.Name f p) [e,e'] [] pos) (bin g d d') := by
  rw [← call_l2]
  refine ev_bi N (evl_cons ha (evl_cons hb evl_nil hs') hs) hs (by rw [hs,hs']; rfl) fun A lev H s xs r vs Q E R G B rs h c => ?_
  unfold l2 at h
  split at h
  · obtain ⟨v,t,rfl,rv,rt⟩ := rs.inv
    obtain ⟨v',t',rfl,rv',rt'⟩ := rt.inv
    have := rt'.inv_nil; subst this
    exact ho A lev H s _ _ r v v' Q E R G B rv rv' h c
  · cases h
theorem RepL.size {H : HS} {h : Heap} {xs : List PV} {vs : List Value} (r : RepL H h xs vs) (l : xs.length ≤ lenMax) : (List.toArray vs).size ≤ 1000000 := by
  rw [List.size_toArray,r.length]; exact l
theorem bi_len : Op1 P (fun v => PySem.call (.builtin "len") [v]) lenV := fun A lev H s x r a Q E R G B ra e c => by
  unfold lenV at e
  split at e
  · cases e
    obtain ⟨la,vs,rfl,na,pa,qa,sa⟩ := ra.list_inv
    have z := qa.size sa
    have := qa.length
    refine call_len_list (plain_isList pa) (by lia) ?_
    rw [List.size_toArray,this]
    exact c _ _ (keeps_toks _ _) (Rep.int _ _)
  · cases e
    obtain ⟨la,vs,rfl,na,pa,qa,sa⟩ := ra.tup_inv
    have z := qa.size sa
    have := qa.length
    refine len_tuple pa (by lia) ?_
    rw [List.size_toArray,this]
    exact c _ _ (keeps_toks _ _) (Rep.int _ _)
  · cases e
    rw [Rep] at ra
    obtain ⟨a,rfl,na,⟨o,es,ep,tb,ho,hx,hd,hf,hn⟩,hl⟩ := ra
    have hl' : es.size ≤ 1000000 := by rw [hn]; exact hl
    refine call_len_set ho hx hd hf (by lia) ?_
    rw [hn]
    exact c _ _ (keeps_toks _ _) (Rep.int _ _)
  · cases e
theorem bi_abs : Op1 P (fun v => PySem.call (.builtin "abs") [v]) absV := fun A lev H s x r a Q E R G B ra e c => by
  unfold absV at e
  split at e
  · cases e
    obtain ⟨t,rfl⟩ := ra.int_inv
    exact call_abs_int fun u tk => c _ _ (keeps_toks _ _) (Rep.int _ _)
  · cases e
theorem bi_max2 : Op2 P (fun v v' => PySem.call (.builtin "max") [v,v']) max2V := fun A lev H s x y r a b Q E R G B ra rb e c => by
  unfold max2V at e
  split at e
  · rename_i a b
    cases e
    obtain ⟨t,rfl⟩ := ra.int_inv
    obtain ⟨u,rfl⟩ := rb.int_inv
    refine max_two_ints R.handled fun h' tk hk => c _ _ ⟨h',tk,rfl,hk⟩ ?_
    by_cases q : b > a
    · rw [if_pos q,if_pos q]; exact Rep.int _ _
    · rw [if_neg q,if_neg q]; exact Rep.int _ _
  · cases e
theorem ty_list : Op1 P (fun v => PySem.call (.type "list") [v]) listV := fun A lev H s x r a Q E R G B ra e c => by
  unfold listV at e
  split at e
  · cases e
    obtain ⟨la,vs,rfl,na,pa,qa,sa⟩ := ra.list_inv
    have z := qa.size sa
    obtain ⟨n,ho⟩ := pa
    refine call_list_seq la (.inl rfl) ho rfl rfl (fun h' c' hk hn => ?_) (by rw [sizeLine_val]; lia)
    have k : Keeps s { s with heap := h' } := ⟨h',s.toks,rfl,hk⟩
    refine c _ _ k ?_
    rw [Rep]
    exact ⟨_,vs,rfl,B.new,⟨c',hn⟩,qa.keeps k,sa⟩
  · cases e
theorem bi_isStr : Op1 P (fun v => PySem.call (.builtin "isinstance") [v,.type "str"]) isStrV := fun A lev H s x r a Q E R G B ra e c => by
  unfold isStrV at e
  split at e
  · cases e
    obtain ⟨la,vs,rfl,na,⟨o,ho,hc,_⟩,qa,sa⟩ := ra.tup_inv
    exact PySem.IsiPair.tuple_str ho hc (c _ _ (keeps_toks _ _) (Rep.bool _))
  · cases e
theorem repL_items {H : HS} {h : Heap} : ∀ {xs : List PV} {vs : List Value} {ns : List Int},RepL H h xs vs → intsOf xs = some ns → ∃ ps : List (Int × Tok),vs = ps.map (fun p => .int p.1 p.2) ∧ ps.map (·.1) = ns
  | [],vs,ns,r,e => by
    rw [RepL] at r; subst r
    simp [intsOf] at e; subst e
    exact ⟨[],rfl,rfl⟩
  | x :: xs,vs,ns,r,e => by
    obtain ⟨v,t,rfl,a,b⟩ := r.inv
    cases x <;> simp [intsOf] at e
    obtain ⟨ms,hm,rfl⟩ := e
    obtain ⟨t,rfl⟩ := a.int_inv
    obtain ⟨ps,rfl,hp⟩ := repL_items b hm
    exact ⟨(_,t) :: ps,rfl,by simp [hp]⟩
theorem items_arr (ps : List (Int × Tok)) : (List.toArray (ps.map fun p => Value.int p.1 p.2)) = intItems ps.toArray := by
  simp [intItems]
theorem numAt_arr (ps : List (Int × Tok)) (i : Nat) : numAt ps.toArray i = ((ps.map (·.1))[i]?).getD 0 := by
  simp [numAt]
end
end Mine
end
section
open PySem PySem.W PyProof.Rows PySem.Calls
namespace Mine
section
variable {P : Pk} {lev : Nat} {env : Env} {ctx : List Str}
theorem ts_chain {l r₁ r₂ : Expr} {o₁ o₂ : CmpOp} {pos : Pos} {f g : PV → PV → Option Bool} {dl d₁ d₂ : Den} (hl : Ev P lev env ctx l dl) (h₁ : Ev P lev env ctx r₁ d₁) (h₂ : Ev P lev env ctx r₂ d₂)
    (c₁ : OpC P o₁ f) (c₂ : OpC P o₂ g) (hm : lastMarks [o₁,o₂] [r₁,r₂] = false) :
    Ts P lev env ctx (.Compare l [o₁,o₂] [r₁,r₂] pos) (tchain f g dl d₁ d₂) := fun A H σ s m cm ad b Q E S h c => by
  unfold tchain at h
  split at h
  · cases h
  · rename_i x hx
    split at h
    · cases h
    · rename_i y hy
      refine PyProof.Rows.isTrue_chain (hl A H σ s m cm ad x _ E S hx fun va s₁ k₁ ra => ?_) hm
      refine test_link (h₁ A H σ s₁ m cm ad y _ E (S.keeps k₁) hy fun vb s₂ k₂ rb => ?_)
      have S2 := S.keeps (keeps_tr k₁ k₂)
      split at h
      · cases h
      · rename_i hf
        cases h
        refine c₁ A lev H s₂ x y false va vb _ E S.room S2.pg S2.hb (ra.keeps k₂) rb hf fun s₃ k₃ => wpAny_truthy_bool ?_
        rw [if_neg (by decide)]
        exact c s₃ (keeps_tr (keeps_tr k₁ k₂) k₃)
      · rename_i hf
        refine c₁ A lev H s₂ x y true va vb _ E S.room S2.pg S2.hb (ra.keeps k₂) rb hf fun s₃ k₃ => wpAny_truthy_bool ?_
        rw [if_pos rfl]
        split at h
        · cases h
        · rename_i z hz
          refine test_last (h₂ A H σ s₃ m cm ad z _ E (S2.keeps k₃) hz fun vc s₄ k₄ rc => ?_)
          have S4 := S2.keeps (keeps_tr k₃ k₄)
          exact c₂ A lev H s₄ y z b vb vc _ E S.room S4.pg S4.hb (rb.keeps (keeps_tr k₃ k₄)) rc h fun s₅ k₅ => wpAny_truthy_bool (c s₅ (keeps_tr (keeps_tr k₁ k₂) (keeps_tr (keeps_tr k₃ k₄) k₅)))
theorem ev_str {x : Str} {k : Nat} {pos : Pos} : Ev P lev env ctx (.Constant (.str x) k pos) (cst (.str x)) := fun A H σ s m cm ad pv Q E S h c => by
  unfold cst at h; cases h
  exact wpAny_Constant_str (c _ _ (keeps_toks _ _) (by rw [Rep]; exact ⟨_,rfl⟩))
theorem vtst_some {t : TDen} {σ : Sl} {pv : PV} (h : vtst t σ = some pv) : ∃ b,t σ = some b ∧ pv = .bool b := by
  unfold vtst at h
  split at h
  · cases h
  · cases h; exact ⟨_,‹_›,rfl⟩
theorem vtst_of {t : TDen} {σ : Sl} {b : Bool} (h : t σ = some b) : vtst t σ = some (.bool b) := by unfold vtst; rw [h]
theorem ev_and3 {x y z : Expr} {pos : Pos} {dx dy dz : TDen} (hx : Ev P lev env ctx x (vtst dx)) (hy : Ev P lev env ctx y (vtst dy)) (hz : Ev P lev env ctx z (vtst dz)) :
    Ev P lev env ctx (.BoolOp .And [x,y,z] pos) (vtst (tand dx (tand dy dz))) := fun A H σ s m cm ad pv Q E S h c => by
  obtain ⟨b,hb,rfl⟩ := vtst_some h
  show wpAny _ A (do
    let v ← eval x env
    standAt pos
    let t ← holding [v] (truthy v)
    match BoolOp.And,t with
    | .And,false | .Or,true => pure v
    | _,_ => boolOp pos .And [eval y env,eval z env]) Q E s
  have step : ∀ {s : Shared} {e : Expr} {d : TDen} {b : Bool} {k : Value → Sem Value},St P lev env ctx A H σ s m cm ad → Ev P lev env ctx e (vtst d) → d σ = some b →
      (∀ s',Keeps s s' → wpAny (model P.prog P.w) A (if b then k (.bool b) else pure (.bool b)) Q E s') →
      wpAny (model P.prog P.w) A (do
        let v ← eval e env
        standAt pos
        let t ← holding [v] (truthy v)
        if t then k v else pure v) Q E s := fun S he hd hk =>
    wpAny_bind (he A H σ _ m cm ad _ _ E S (vtst_of hd) fun v s₁ k₁ r => wpAny_bind (wpAny_standAt (wpAny_bind (wpAny_holding (by
      rw [r.bool_inv]; exact wpAny_truthy_bool (hk s₁ k₁))))))
  have e1 : (do
    let v ← eval x env
    standAt pos
    let t ← holding [v] (truthy v)
    match BoolOp.And,t with
    | .And,false | .Or,true => pure v
    | _,_ => boolOp pos .And [eval y env,eval z env]) = (do
        let v ← eval x env
        standAt pos
        let t ← holding [v] (truthy v)
        if t then boolOp pos .And [eval y env,eval z env] else pure v : Sem Value) := by
    congr; funext v; congr; funext _; congr; funext t; cases t <;> rfl
  have e2 : boolOp pos .And [eval y env,eval z env] = (do
        let v ← eval y env
        standAt pos
        let t ← holding [v] (truthy v)
        if t then eval z env else pure v : Sem Value) := by
    show (do
      let v ← eval y env
      standAt pos
      let t ← holding [v] (truthy v)
      match BoolOp.And,t with
      | .And,false | .Or,true => pure v
      | _,_ => boolOp pos .And [eval z env]) = _
    congr; funext v; congr; funext _; congr; funext t; cases t <;> rfl
  rw [e1]
  unfold tand at hb
  split at hb
  · cases hb
  · rename_i h1
    refine step S hx h1 fun s₁ k₁ => ?_
    rw [if_pos rfl,e2]
    split at hb
    · cases hb
    · rename_i h2
      refine step (S.keeps k₁) hy h2 fun s₂ k₂ => ?_
      rw [if_pos rfl]
      exact hz A H σ s₂ m cm ad _ Q E (S.keeps (keeps_tr k₁ k₂)) (vtst_of hb) fun v s₃ k₃ r => c v s₃ (keeps_tr (keeps_tr k₁ k₂) k₃) r
    · rename_i h2
      cases hb
      refine step (S.keeps k₁) hy h2 fun s₂ k₂ => ?_
      rw [if_neg (by decide)]
      exact wpAny_pure (c _ _ (keeps_tr k₁ k₂) (Rep.bool _))
  · rename_i h1
    cases hb
    refine step S hx h1 fun s₁ k₁ => ?_
    rw [if_neg (by decide)]
    exact wpAny_pure (c _ _ k₁ (Rep.bool _))
theorem idxL_some {xs : List PV} {k : Int} {x : PV} (h : idxL xs k = some x) : ∃ j,seqIndex? k xs.length = some j ∧ xs[j]? = some x ∧ ((0 ≤ k ∧ j = k.toNat) ∨ (k < 0 ∧ -(xs.length : Int) ≤ k ∧ j = (k + xs.length).toNat)) := by
  unfold idxL at h
  split at h
  · rename_i h0
    have hlt : k.toNat < xs.length := by
      by_cases q : k.toNat < xs.length
      · exact q
      · rw [List.getElem?_eq_none (by lia)] at h; cases h
    refine ⟨k.toNat,?_,h,.inl ⟨h0,rfl⟩⟩
    have e : (if k < 0 then k + (xs.length : Int) else k) = k := if_neg (by lia)
    unfold seqIndex?
    simp only [e,Bool.and_eq_true,decide_eq_true_eq]
    rw [if_pos (by lia)]
  · split at h
    · rename_i h0 h1
      have hlt : (k + xs.length).toNat < xs.length := by lia
      refine ⟨(k + xs.length).toNat,?_,h,.inr ⟨by lia,h1,rfl⟩⟩
      have e : (if k < 0 then k + (xs.length : Int) else k) = k + xs.length := if_pos (by lia)
      unfold seqIndex?
      simp only [e,Bool.and_eq_true,decide_eq_true_eq]
      rw [if_pos (by lia)]
    · cases h
theorem getItem_plain {A : Around} {H : HS} {s : Shared} {la : Addr} {xs : List PV} {vs : List Value} {k : Int} {u : Tok} {x : PV} {Q : Value → Shared → Prop} {E : Value → Shared → Prop}
    (p : s.heap.PlainList la (List.toArray vs)) (q : RepL H s.heap xs vs) (hl : xs.length ≤ lenMax) (h : idxL xs k = some x) (c : ∀ v,Rep H s.heap x v → Q v s) :
    wpAny (model P.prog P.w) A (getItem (.ref la) (.int k u)) Q E s := by
  obtain ⟨j,hj,hx,hk⟩ := idxL_some h
  obtain ⟨v,hv,r⟩ := q.get hx
  have hl' : xs.length ≤ 1000000 := hl
  have hlen := q.length
  have hjl : j < xs.length := by
    by_cases q : j < xs.length
    · exact q
    · rw [List.getElem?_eq_none (by lia)] at hx; cases hx
  rcases hk with ⟨h0,rfl⟩ | ⟨h0,h1,rfl⟩
  · exact wpAny_getItem_list (plain_isList p) h0 (by lia) (by simpa using hv) (c v r)
  · exact wpAny_getItem_list_neg (plain_isList p) h0 (by rw [List.size_toArray,hlen]; exact h1) (by lia) (by rw [List.size_toArray,hlen]; simpa using hv) (c v r)
noncomputable def SubOk (slice : Expr) : Prop := ∀ o i,∃ ops,subscripted slice false o i = operate ops (getItem o i)
theorem ev_idx {a i : Expr} {pos : Pos} {da di : Den} (ha : Ev P lev env ctx a da) (hi : Ev P lev env ctx i di) (hs : SubOk i) :
    Ev P lev env ctx (.Subscript a i pos) (idx da di) := fun A H σ s m cm ad pv Q E S h c => by
  unfold idx bin at h
  split at h
  · cases h
  · rename_i x hx
    split at h
    · cases h
    · rename_i y hy
      refine PyProof.Rows.Subscript_ (ha A H σ s m cm ad x _ E S hx fun va s₁ k₁ ra => ?_)
      refine hi A H σ s₁ m cm ad y _ E (S.keeps k₁) hy fun vi s₂ k₂ ri => ?_
      have ra2 := ra.keeps k₂
      obtain ⟨ops,ho⟩ := hs va vi
      unfold idxV at h
      split at h
      · obtain ⟨la,vs,rfl,na,pa,qa,sa⟩ := ra2.list_inv
        obtain ⟨u,rfl⟩ := ri.int_inv
        exact tail_any (plain_isList pa).typeIs slot_list_getitem.lookup (getItem_plain pa qa sa h fun v r => c v s₂ (keeps_tr k₁ k₂) r) ho
      · obtain ⟨la,vs,rfl,na,pa,qa,sa⟩ := ra2.tup_inv
        obtain ⟨u,rfl⟩ := ri.int_inv
        obtain ⟨j,hj,hx,hk⟩ := idxL_some h
        obtain ⟨v,hv,r⟩ := qa.get hx
        have sa' : _ ≤ 1000000 := sa
        have hlen := qa.length
        have hjl : j < vs.length := by
          by_cases q : j < vs.length
          · exact q
          · rw [List.getElem?_eq_none (by lia)] at hv; cases hv
        have hT : PyProof.Rows.IsTup s₂.heap la (List.toArray vs) := pa
        exact tail_any hT.typeIs slot_tuple_getitem.lookup (getItem_tuple hT (by lia) (by lia) (by rw [List.size_toArray,hlen]; exact hj) (by simpa using hv) (c v s₂ (keeps_tr k₁ k₂) r)) ho
      · cases h
theorem name_own {A : Around} {H : HS} {σ : Sl} {s : Shared} {m cm : Str → Option Value} {ad : Nat → Addr} {i : Nat} {x : Str} {p : Pos} {xs : List PV} {Q : Value → Shared → Prop} {E : Value → Shared → Prop}
    (S : St P lev env ctx A H σ s m cm ad) (hi : ctx[i]? = some x) (hl : env.kindOf x = some .local) (hd : (x == ("__debug__" : Str)) = false) (h : σ[i]? = some (.own xs))
    (c : ∀ vs,s.heap.PlainList (ad i) (List.toArray vs) → RepL H s.heap xs vs → H (ad i) → Q (.ref (ad i)) s) : wpAny (model P.prog P.w) A (eval (.Name x p) env) Q E s := by
  obtain ⟨e,hH,vs,pl,r⟩ := S.vars.slot i x _ hi h
  unfold vl at e; rw [if_pos hl] at e
  exact wpAny_Name (wpAny_loadName_local S.ok.kind hl S.vars.ns e (c vs pl r hH)) hd
theorem ev_idxO {i : Nat} {x : Str} {p : Pos} {k : Expr} {pos : Pos} {dk : Den} (hi : ctx[i]? = some x) (hl : env.kindOf x = some .local) (hd : (x == ("__debug__" : Str)) = false) (hk : Ev P lev env ctx k dk) (hs : SubOk k) :
    Ev P lev env ctx (.Subscript (.Name x p) k pos) (idxO i dk) := fun A H σ s m cm ad pv Q E S h c => by
  unfold idxO at h
  split at h
  · rename_i xs hx
    split at h
    · rename_i kk hkk
      split at h
      · rename_i hlen
        refine PyProof.Rows.Subscript_ (name_own S hi hl hd hx fun vs pl r _ => ?_)
        refine hk A H σ s m cm ad _ _ E S hkk fun vk s₁ k₁ rk => ?_
        obtain ⟨u,rfl⟩ := rk.int_inv
        obtain ⟨ops,ho⟩ := hs (.ref (ad i)) (.int kk u)
        have pl' := isList_mono pl fun o e => keeps_get k₁ _ o e
        exact tail_any (plain_isList pl').typeIs slot_list_getitem.lookup (getItem_plain pl' (r.keeps k₁) hlen h fun v r => c v s₁ k₁ r) ho
      · cases h
    · cases h
  · cases h
end
end Mine
end
section
open PySem PySem.W PyProof.Rows PySem.Calls
namespace Mine
section
variable {P : Pk} {lev : Nat} {env : Env} {ctx : List Str}
theorem argBest_max (f : Nat → Int) (a : Int) (r : List Int) (h0 : f 0 = a) (hr : ∀ i,i < r.length → f (i + 1) = (r[i]?).getD 0) :
    ∀ k,k ≤ r.length → argBest (fun i j => decide (f i > f j)) k ≤ k ∧ f (argBest (fun i j => decide (f i > f j)) k) = bestMax a (r.take k)
  | 0,_ => ⟨Nat.le_refl _,by simpa [argBest,bestMax] using h0⟩
  | k + 1,hk => by
    obtain ⟨h1,h2⟩ := argBest_max f a r h0 hr k (by lia)
    have hs : ∀ (l : List Int) (a b : Int),bestMax a (l ++ [b]) = if b > bestMax a l then b else bestMax a l := by
      intro l
      induction l with
      | nil => intro a b; rfl
      | cons x l ih => intro a b; simp only [List.cons_append,bestMax]; exact ih _ _
    have e : r.take (k + 1) = r.take k ++ [(r[k]?).getD 0] := by
      rw [List.take_add_one,List.getElem?_eq_getElem (by lia)]; rfl
    rw [e,hs,← h2,← hr k (by lia)]
    have u : argBest (fun i j => decide (f i > f j)) (k + 1) = if decide (f (k + 1) > f (argBest (fun i j => decide (f i > f j)) k)) = true then k + 1 else argBest (fun i j => decide (f i > f j)) k := rfl
    rw [u]
    clear u hs
    generalize argBest (fun i j => decide (f i > f j)) k = z at *
    by_cases q : f (k + 1) > f z
    · rw [if_pos (by simpa using q),if_pos q]; exact ⟨Nat.le_refl _,rfl⟩
    · rw [if_neg (by simpa using q),if_neg q]; exact ⟨by lia,rfl⟩
theorem argBest_min (f : Nat → Int) (a : Int) (r : List Int) (h0 : f 0 = a) (hr : ∀ i,i < r.length → f (i + 1) = (r[i]?).getD 0) :
    ∀ k,k ≤ r.length → argBest (fun i j => decide (f i < f j)) k ≤ k ∧ f (argBest (fun i j => decide (f i < f j)) k) = bestMin a (r.take k)
  | 0,_ => ⟨Nat.le_refl _,by simpa [argBest,bestMin] using h0⟩
  | k + 1,hk => by
    obtain ⟨h1,h2⟩ := argBest_min f a r h0 hr k (by lia)
    have hs : ∀ (l : List Int) (a b : Int),bestMin a (l ++ [b]) = if b < bestMin a l then b else bestMin a l := by
      intro l
      induction l with
      | nil => intro a b; rfl
      | cons x l ih => intro a b; simp only [List.cons_append,bestMin]; exact ih _ _
    have e : r.take (k + 1) = r.take k ++ [(r[k]?).getD 0] := by
      rw [List.take_add_one,List.getElem?_eq_getElem (by lia)]; rfl
    rw [e,hs,← h2,← hr k (by lia)]
    have u : argBest (fun i j => decide (f i < f j)) (k + 1) = if decide (f (k + 1) < f (argBest (fun i j => decide (f i < f j)) k)) = true then k + 1 else argBest (fun i j => decide (f i < f j)) k := rfl
    rw [u]
    clear u hs
    generalize argBest (fun i j => decide (f i < f j)) k = z at *
    by_cases q : f (k + 1) < f z
    · rw [if_pos (by simpa using q),if_pos q]; exact ⟨Nat.le_refl _,rfl⟩
    · rw [if_neg (by simpa using q),if_neg q]; exact ⟨by lia,rfl⟩
theorem intItems_get {ps : List (Int × Tok)} {i : Nat} {v : Value} (h : (intItems ps.toArray)[i]? = some v) : ∃ t,v = .int (((ps.map (·.1))[i]?).getD 0) t := by
  obtain ⟨t,e⟩ := intItems_at h
  rw [numAt_arr] at e
  exact ⟨t,e⟩
theorem bi_max : Op1 P (fun v => PySem.call (.builtin "max") [v]) maxV := fun A lev H s x r a Q E R G B ra e c => by
  unfold maxV at e
  split at e
  · split at e
    · rename_i a r hi
      cases e
      obtain ⟨la,vs,rfl,na,pa,qa,sa⟩ := ra.list_inv
      obtain ⟨ps,rfl,hp⟩ := repL_items qa hi
      have hl : ps.length = r.length + 1 := by rw [← List.length_map (f := fun p : Int × Tok => p.1),hp]; rfl
      have il := plain_isList pa
      rw [items_arr] at il
      refine max_intList R.handled il (by simp; lia) fun v h' tk hv hk => ?_
      obtain ⟨t,rfl⟩ := intItems_get hv
      have hf : ∀ i,numAt ps.toArray i = ((a :: r)[i]?).getD 0 := fun i => by rw [numAt_arr,hp]
      have := (argBest_max (numAt ps.toArray) a r (by rw [hf]; rfl) (fun i hi => by rw [hf]; rfl) r.length (Nat.le_refl _)).2
      rw [List.take_length,numAt_arr] at this
      have hz : ps.toArray.size - 1 = r.length := by simp; lia
      rw [hz,this]
      exact c _ _ ⟨h',tk,rfl,hk⟩ (Rep.int _ _)
    · cases e
  · cases e
theorem bi_min : Op1 P (fun v => PySem.call (.builtin "min") [v]) minV := fun A lev H s x r a Q E R G B ra e c => by
  unfold minV at e
  split at e
  · split at e
    · rename_i a r hi
      cases e
      obtain ⟨la,vs,rfl,na,pa,qa,sa⟩ := ra.list_inv
      obtain ⟨ps,rfl,hp⟩ := repL_items qa hi
      have hl : ps.length = r.length + 1 := by rw [← List.length_map (f := fun p : Int × Tok => p.1),hp]; rfl
      have il := plain_isList pa
      rw [items_arr] at il
      refine min_intList R.handled il (by simp; lia) fun v h' tk hv hk => ?_
      obtain ⟨t,rfl⟩ := intItems_get hv
      have hf : ∀ i,numAt ps.toArray i = ((a :: r)[i]?).getD 0 := fun i => by rw [numAt_arr,hp]
      have := (argBest_min (numAt ps.toArray) a r (by rw [hf]; rfl) (fun i hi => by rw [hf]; rfl) r.length (Nat.le_refl _)).2
      rw [List.take_length,numAt_arr] at this
      have hz : ps.toArray.size - 1 = r.length := by simp; lia
      rw [hz,this]
      exact c _ _ ⟨h',tk,rfl,hk⟩ (Rep.int _ _)
    · cases e
  · cases e
theorem sumFits_at : ∀ (l : List Int) (t : Int) (f : Nat → Int),(∀ i,i < l.length → f i = (l[i]?).getD 0) → sumFits t l = true → ∀ j,j < l.length → InLong (f j) ∧ InLong (t + preSum f (j + 1))
  | [],_,_,_,_,j,hj => absurd hj (Nat.not_lt_zero _)
  | a :: r,t,f,hf,h,j,hj => by
    have sh : ∀ n,preSum f (n + 1) = f 0 + preSum (fun i => f (i + 1)) n := by
      intro n
      induction n with
      | zero => simp [preSum]
      | succ n ih => rw [preSum,ih,preSum]; lia
    have h0 : f 0 = a := hf 0 (by simp)
    simp only [sumFits,inLong,Bool.and_eq_true,decide_eq_true_eq] at h
    cases j with
    | zero => rw [sh]; simp only [preSum,h0]; rw [Int.add_zero]; exact h.1
    | succ j =>
      have := sumFits_at r (t + a) (fun i => f (i + 1)) (fun i hi => by simpa using hf (i + 1) (by simpa using hi)) h.2 j (by simpa using hj)
      rw [sh,h0,← Int.add_assoc]
      exact this
theorem preSum_sum : ∀ (l : List Int) (f : Nat → Int),(∀ i,i < l.length → f i = (l[i]?).getD 0) → preSum f l.length = l.sum
  | [],_,_ => rfl
  | a :: r,f,hf => by
    have sh : ∀ n,preSum f (n + 1) = f 0 + preSum (fun i => f (i + 1)) n := by
      intro n
      induction n with
      | zero => simp [preSum]
      | succ n ih => rw [preSum,ih,preSum]; lia
    rw [List.length_cons,sh,preSum_sum r _ (fun i hi => by simpa using hf (i + 1) (by simpa using hi)),hf 0 (by simp)]
    simp
theorem bi_sum : Op1 P (fun v => PySem.call (.builtin "sum") [v]) sumV := fun A lev H s x r a Q E R G B ra e c => by
  unfold sumV at e
  split at e
  · split at e
    · rename_i l hi
      split at e
      · rename_i hs
        cases e
        obtain ⟨la,vs,rfl,na,pa,qa,sa⟩ := ra.list_inv
        obtain ⟨ps,rfl,hp⟩ := repL_items qa hi
        have hl : ps.length = l.length := by rw [← List.length_map (f := fun p : Int × Tok => p.1),hp]
        have il := plain_isList pa
        rw [items_arr] at il
        have hf : ∀ i,i < l.length → numAt ps.toArray i = (l[i]?).getD 0 := fun i _ => by rw [numAt_arr,hp]
        have hz : ps.toArray.size = l.length := by simp; lia
        refine sum_intList R.handled il (fun j hj => ?_) fun h' tk t' hk => ?_
        · have := sumFits_at l 0 _ hf hs j (by lia)
          simpa using this
        · rw [hz,preSum_sum l _ hf]
          exact c _ _ ⟨h',tk,rfl,hk⟩ (Rep.int _ _)
      · cases e
    · cases e
  · cases e
theorem ty_set : Op1 P (fun v => PySem.call (.type "set") [v]) setV := fun A lev H s x r a Q E R G B ra e c => by
  unfold setV at e
  split at e
  · split at e
    · rename_i l hi
      split at e
      · rename_i hs
        cases e
        obtain ⟨la,vs,rfl,na,pa,qa,sa⟩ := ra.list_inv
        have hI := intsAre_of qa hi
        have hlen := IntsAre.length hI
        have hz : (List.toArray vs).size = l.length := by rw [List.size_toArray,hlen]
        refine PySem.call_set_list R.handled (plain_isList pa) (by simpa using hI) (by rw [hz]; unfold scanBound; lia) fun h' tk hS hk => ?_
        rw [hz] at hS
        obtain ⟨o,es,ep,t,ho,hx,hd,_,_,_,hf,hn⟩ := hS
        refine c _ _ ⟨h',tk,rfl,fun b o e => hk b o (Heap.lt_size e) e⟩ ?_
        rw [Rep]
        refine ⟨_,rfl,B.new,⟨o,es,ep,t,ho,hx,hd,hf,hn⟩,?_⟩
        have := firstMet_length_le (fun i => l.getD i 0) l.length
        unfold lenMax; lia
      · cases e
    · cases e
  · cases e
theorem pick_to (vs : List Value) {k : Int} (h : 0 ≤ k) : slicePick vs.toArray none (some k) none = (vs.take k.toNat).toArray := by
  rw [kms_pick_eq]
  show ((vs.drop 0).take ((if k < 0 then vs.length - (-k).toNat else min k.toNat vs.length) - 0)).toArray = _
  rw [if_neg (by lia),List.drop_zero,Nat.sub_zero]
  congr 1
  by_cases q : k.toNat ≤ vs.length
  · rw [Nat.min_eq_left q]
  · rw [Nat.min_eq_right (by lia),List.take_of_length_le (Nat.le_refl _),List.take_of_length_le (by lia)]
theorem pick_from (vs : List Value) {k : Int} (h : 0 ≤ k) : slicePick vs.toArray (some k) none none = (vs.drop k.toNat).toArray := by
  rw [kms_pick_eq]
  show ((vs.drop (if k < 0 then vs.length - (-k).toNat else min k.toNat vs.length)).take (vs.length - (if k < 0 then vs.length - (-k).toNat else min k.toNat vs.length))).toArray = _
  rw [if_neg (by lia)]
  congr 1
  by_cases q : k.toNat ≤ vs.length
  · rw [Nat.min_eq_left q,List.take_of_length_le (by simp)]
  · rw [Nat.min_eq_right (by lia),List.drop_of_length_le (by lia),List.drop_of_length_le (by lia)]; simp
theorem slice_tail {A : Around} {H : HS} {s : Shared} {la : Addr} {xs ys : List PV} {vs us : List Value} {value slice : Expr} {vl vu vt : Value} {lo hi st : Option Int} {Q : Value → Shared → Prop} {E : Value → Shared → Prop}
    (G : PG P s.heap) (B : HB H s.heap) (p : s.heap.PlainList la (List.toArray vs)) (q : RepL H s.heap xs vs) (hl : xs.length ≤ lenMax) (pl : IsPart vl lo) (pu : IsPart vu hi) (pt : IsPart vt st) (h0 : st ≠ some 0)
    (hpick : slicePick (List.toArray vs) lo hi st = List.toArray us) (hq : ∀ h',RepL H h' xs vs → RepL H h' ys us) (hy : ys.length ≤ lenMax) (hs : SubOk slice)
    (c : ∀ v s',Keeps s s' → Rep H s'.heap (.list ys) v → Q v s') :
    wpAny (model P.prog P.w) A (subscriptTail value slice (.ref la) (.ref s.heap.objs.size)) Q E { s with heap := s.heap.push { cls := .type "slice",data := .fields #[vl,vu,vt] } } := by
  obtain ⟨ops,ho⟩ := hs (.ref la) (.ref s.heap.objs.size)
  have il := plain_isList p
  have k1 := keeps_push s { cls := .type "slice",data := .fields #[vl,vu,vt] }
  refine tail_any (Heap.IsList.typeIs (s := { s with heap := s.heap.push { cls := .type "slice",data := .fields #[vl,vu,vt] } }) (il.push _)) slot_list_getitem.lookup
    (wpAny_getItem_list_slice (il.push _) (Heap.IsSliceOf.new ..) pl pu pt h0 ?_ (by have := q.size hl; rw [sizeLine_val]; lia)) ho
  rw [hpick]
  have k2 := keeps_push { s with heap := s.heap.push { cls := .type "slice",data := .fields #[vl,vu,vt] } } { cls := .type "list",data := .seq (List.toArray us) }
  refine c _ _ (keeps_tr k1 k2) ?_
  rw [Rep]
  exact ⟨_,us,rfl,(B.keeps (keeps_get k1)).new,⟨0,Heap.get?_push_size _ rfl⟩,hq _ (q.keeps (keeps_tr k1 k2)),hy⟩
theorem ev_slice_eq (l u t : Option Expr) (pos : Pos) (env : Env) : eval (.Slice l u t pos) env = (do
    let l ← valueOrNone (evalOpt l env)
    let u ← holding [l] (valueOrNone (evalOpt u env))
    let s ← holding [l,u] (valueOrNone (evalOpt t env))
    newFields "slice" [l,u,s]) := rfl
theorem wp_newSlice {A : Around} {s : Shared} {a b c : Value} {Q : Value → Shared → Prop} {E : Value → Shared → Prop}
    (h : Q (.ref s.heap.objs.size) { s with heap := s.heap.push { cls := .type "slice",data := .fields #[a,b,c] } }) : wpAny (model P.prog P.w) A (newFields "slice" [a,b,c]) Q E s := by
  unfold newFields
  exact wpAny_newObj_type h
theorem ev_sliceTo {a u : Expr} {sp pos : Pos} {da du : Den} (ha : Ev P lev env ctx a da) (hu : Ev P lev env ctx u du) (hs : SubOk (.Slice none (some u) none sp)) :
    Ev P lev env ctx (.Subscript a (.Slice none (some u) none sp) pos) (bin sliceToV da du) := fun A H σ s m cm ad pv Q E S h c => by
  unfold bin at h
  split at h
  · cases h
  · rename_i x hx
    split at h
    · cases h
    · rename_i y hy
      refine PyProof.Rows.Subscript_ (ha A H σ s m cm ad x _ E S hx fun va s₁ k₁ ra => ?_)
      rw [ev_slice_eq]
      refine wpAny_bind (wpAny_pure ?_)
      refine wpAny_bind (wpAny_holding (hu A H σ s₁ m cm ad y _ E (S.keeps k₁) hy fun vu s₂ k₂ ru => ?_))
      refine wpAny_bind (wpAny_holding (wpAny_pure ?_))
      have ra2 := ra.keeps k₂
      have S2 := S.keeps (keeps_tr k₁ k₂)
      refine wp_newSlice ?_
      unfold sliceToV at h
      split at h
      · split at h
        · rename_i hk
          cases h
          obtain ⟨la,vs,rfl,na,pa,qa,sa⟩ := ra2.list_inv
          obtain ⟨t,rfl⟩ := ru.int_inv
          exact slice_tail S2.pg S2.hb pa qa sa .none (.int _ _) .none (by simp) (pick_to vs hk.1) (fun h' r => r.take _) (by simp only [List.length_take]; lia) hs fun v s' k r => c v s' (keeps_tr (keeps_tr k₁ k₂) k) r
        · cases h
      · cases h
theorem ev_sliceFrom {a l : Expr} {sp pos : Pos} {da dl : Den} (ha : Ev P lev env ctx a da) (hl : Ev P lev env ctx l dl) (hs : SubOk (.Slice (some l) none none sp)) :
    Ev P lev env ctx (.Subscript a (.Slice (some l) none none sp) pos) (bin sliceFromV da dl) := fun A H σ s m cm ad pv Q E S h c => by
  unfold bin at h
  split at h
  · cases h
  · rename_i x hx
    split at h
    · cases h
    · rename_i y hy
      refine PyProof.Rows.Subscript_ (ha A H σ s m cm ad x _ E S hx fun va s₁ k₁ ra => ?_)
      rw [ev_slice_eq]
      refine wpAny_bind (hl A H σ s₁ m cm ad y _ E (S.keeps k₁) hy fun vu s₂ k₂ ru => ?_)
      refine wpAny_bind (wpAny_holding (wpAny_pure ?_))
      refine wpAny_bind (wpAny_holding (wpAny_pure ?_))
      have ra2 := ra.keeps k₂
      have S2 := S.keeps (keeps_tr k₁ k₂)
      refine wp_newSlice ?_
      unfold sliceFromV at h
      split at h
      · split at h
        · rename_i hk
          cases h
          obtain ⟨la,vs,rfl,na,pa,qa,sa⟩ := ra2.list_inv
          obtain ⟨t,rfl⟩ := ru.int_inv
          exact slice_tail S2.pg S2.hb pa qa sa (.int _ _) .none .none (by simp) (pick_from vs hk.1) (fun h' r => r.drop _) (by simp only [List.length_drop]; lia) hs fun v s' k r => c v s' (keeps_tr (keeps_tr k₁ k₂) k) r
        · cases h
      · cases h
theorem ev_rev {a t : Expr} {sp pos : Pos} {da : Den} (ha : Ev P lev env ctx a da) (ht : Ev P lev env ctx t (una negV (ci 1))) (hs : SubOk (.Slice none none (some t) sp)) :
    Ev P lev env ctx (.Subscript a (.Slice none none (some t) sp) pos) (una revV da) := fun A H σ s m cm ad pv Q E S h c => by
  unfold una at h
  split at h
  · cases h
  · rename_i x hx
    refine PyProof.Rows.Subscript_ (ha A H σ s m cm ad x _ E S hx fun va s₁ k₁ ra => ?_)
    rw [ev_slice_eq]
    refine wpAny_bind (wpAny_pure ?_)
    refine wpAny_bind (wpAny_holding (wpAny_pure ?_))
    refine wpAny_bind (wpAny_holding (ht A H σ s₁ m cm ad (.int (-1)) _ E (S.keeps k₁) rfl fun vt s₂ k₂ rt => ?_))
    have ra2 := ra.keeps k₂
    have S2 := S.keeps (keeps_tr k₁ k₂)
    refine wp_newSlice ?_
    unfold revV at h
    split at h
    · cases h
      obtain ⟨la,vs,rfl,na,pa,qa,sa⟩ := ra2.list_inv
      obtain ⟨t,rfl⟩ := rt.int_inv
      exact slice_tail S2.pg S2.hb pa qa sa .none .none (.int _ _) (by decide) (krv_pick _) (fun h' r => r.reverse) (by simpa using sa) hs fun v s' k r => c v s' (keeps_tr (keeps_tr k₁ k₂) k) r
    · cases h
end
end Mine
end
section
open PySem PySem.W PyProof.Rows PySem.Calls
namespace Mine
structure In (P : Pk) (lev : Nat) (env : Env) (ctx : List Str) (A : Around) (prot H₀ H : HS) (σ : Sl) (s : Shared) (m cm : Str → Option Value) (ad : Nat → Addr) : Prop where
  st : St P lev env ctx A H σ s m cm ad
  pl : ∀ b,prot b → ∃ o,s.heap.get? b = some o
  sub : ∀ b,H₀ b → H b
  pgp : ∀ b o,P.hp.get? b = some o → prot b
  loc : H env.locals ∧ ¬ prot env.locals
  cel : ∀ x c,env.cells.lookup x = some c → H c ∧ ¬ prot c ∧ c ≠ env.locals
  inj : ∀ x y c,env.cells.lookup x = some c → env.cells.lookup y = some c → x = y
  own : ∀ i xs,σ[i]? = some (.own xs) → ¬ prot (ad i) ∧ ¬ H₀ (ad i) ∧ ad i ≠ env.locals ∧ ∀ x c,env.cells.lookup x = some c → ad i ≠ c
  apart : ∀ i j xs ys,σ[i]? = some (.own xs) → σ[j]? = some (.own ys) → i ≠ j → ad i ≠ ad j
  nd : ctx.Nodup
  sz : σ.length = ctx.length
structure Moves (prot : HS) (s s' : Shared) : Prop where
  same : ∃ h tk,s' = { s with heap := h,toks := tk }
  keep : ∀ b o,prot b → s.heap.get? b = some o → s'.heap.get? b = some o
theorem moves_refl (prot : HS) (s : Shared) : Moves prot s s := ⟨⟨s.heap,s.toks,rfl⟩,fun _ _ _ e => e⟩
theorem Moves.tr {prot : HS} {s s' s'' : Shared} (x : Moves prot s s') (y : Moves prot s' s'') : Moves prot s s'' := by
  obtain ⟨⟨h,tk,rfl⟩,k⟩ := x
  obtain ⟨⟨h',tk',rfl⟩,k'⟩ := y
  exact ⟨⟨h',tk',rfl⟩,fun b o p e => k' b o p (k b o p e)⟩
theorem keeps_moves {prot : HS} {s s' : Shared} (k : Keeps s s') : Moves prot s s' := by
  obtain ⟨h',tk,rfl,k⟩ := k
  exact ⟨⟨h',tk,rfl⟩,fun b o _ e => k b o e⟩
theorem Moves.mono {prot prot' : HS} {s s' : Shared} (x : Moves prot s s') (h : ∀ b,prot' b → prot b) : Moves prot' s s' := ⟨x.same,fun b o p e => x.keep b o (h b p) e⟩
section
variable {P : Pk} {lev : Nat} {env : Env} {ctx : List Str} {A : Around} {prot H₀ H : HS} {σ : Sl} {s : Shared} {m cm : Str → Option Value} {ad : Nat → Addr}
theorem In.keeps {s' : Shared} (x : In P lev env ctx A prot H₀ H σ s m cm ad) (k : Keeps s s') : In P lev env ctx A prot H₀ H σ s' m cm ad :=
  ⟨x.st.keeps k,fun b p => let ⟨o,e⟩ := x.pl b p; ⟨o,keeps_get k b o e⟩,x.sub,x.pgp,x.loc,x.cel,x.inj,x.own,x.apart,x.nd,x.sz⟩
theorem In.hide {s' : Shared} {H' : HS} (x : In P lev env ctx A prot H₀ H σ s m cm ad) (k : Keeps s s') (hs : ∀ b,H b → H' b) (hb : HB H' s'.heap) (hn : ∀ b,H' b → H b ∨ s.heap.get? b = none) :
    In P lev env ctx A prot H₀ H' σ s' m cm ad ∧ Froz H s.heap H' s'.heap := by
  have f : Froz H s.heap H' s'.heap := fun b o n e => ⟨fun q => (hn b q).elim n fun z => (by rw [z] at e; cases e),keeps_get k b o e⟩
  have y := x.keeps k
  refine ⟨⟨⟨y.st.room,y.st.pg,hb,y.st.ok,⟨y.st.vars.ns,y.st.vars.cells,fun i n sl a b => ?_⟩⟩,y.pl,fun b q => hs b (x.sub b q),x.pgp,⟨hs _ x.loc.1,x.loc.2⟩,fun z c e => ⟨hs _ (x.cel z c e).1,(x.cel z c e).2⟩,x.inj,x.own,x.apart,x.nd,x.sz⟩,f⟩
  have := x.st.vars.slot i n sl a b
  cases sl with
  | unset => trivial
  | val v => obtain ⟨u,e,r⟩ := this; exact ⟨u,e,rep_froz f _ _ r⟩
  | own xs => obtain ⟨e,h,vs,p,r⟩ := this; exact ⟨e,hs _ h,vs,isList_mono p fun o e => keeps_get k _ o e,repL_froz f _ _ r⟩
theorem In.turn {s' : Shared} {a : Addr} (x : In P lev env ctx A prot H₀ H σ s m cm ad) (hH : H a) (hp : ¬ prot a) (same : ∃ h tk,s' = { s with heap := h,toks := tk })
    (hs : ∀ b,b ≠ a → s'.heap.get? b = s.heap.get? b) (hl : ∃ o,s'.heap.get? a = some o) : Froz H s.heap H s'.heap ∧ Moves prot s s' ∧ HB H s'.heap ∧ PG P s'.heap ∧ (∀ b,prot b → ∃ o,s'.heap.get? b = some o) := by
  refine ⟨fun b o n e => ⟨n,(hs b fun q => n (q ▸ hH)).trans e⟩,⟨same,fun b o p e => (hs b fun q => hp (q ▸ p)).trans e⟩,fun b h => ?_,⟨x.st.pg.ok,fun b o e => (hs b fun q => hp (q ▸ x.pgp b o e)).trans (x.st.pg.ext b o e)⟩,fun b p => ?_⟩
  · by_cases q : b = a
    · rw [q]; exact hl
    · obtain ⟨o,e⟩ := x.st.hb b h; exact ⟨o,(hs b q).trans e⟩
  · obtain ⟨o,e⟩ := x.pl b p; exact ⟨o,(hs b fun q => hp (q ▸ p)).trans e⟩
theorem vl_set_local {x y : Str} {v : Value} (hk : env.kindOf x = some .local) (h : y ≠ x) : vl env (fun z => if z = x then some v else m z) cm y = vl env m cm y := by
  unfold vl; split
  · show (if y = x then some v else m y) = m y
    rw [if_neg h]
  · rfl
theorem vl_set_cell {x y : Str} {v : Value} (h : y ≠ x) : vl env m (fun z => if z = x then some v else cm z) y = vl env m cm y := by
  unfold vl; split
  · rfl
  · show (if y = x then some v else cm y) = cm y
    rw [if_neg h]
noncomputable def NameAt (env : Env) (x : Str) : Prop := env.kindOf x = some .local ∨ (env.kindOf x = some .cell ∧ ∃ c,env.cells.lookup x = some c)
noncomputable def SlotIn (prot H₀ H : HS) (env : Env) (h : Heap) (v : Value) (a : Addr) : Slot → Prop
  | .unset => True
  | .val x => Rep H h x v
  | .own xs => v = .ref a ∧ H a ∧ (∃ vs,h.PlainList a (List.toArray vs) ∧ RepL H h xs vs) ∧ ¬ prot a ∧ ¬ H₀ a ∧ a ≠ env.locals ∧ ∀ x c,env.cells.lookup x = some c → a ≠ c
theorem store_slot {i : Nat} {x : Str} {v : Value} {sl : Slot} {a : Addr} {Q : Unit → Shared → Prop} {E : Value → Shared → Prop} (X : In P lev env ctx A prot H₀ H σ s m cm ad) (hi : ctx[i]? = some x) (hx : NameAt env x)
    (hsl : SlotIn prot H₀ H env s.heap v a sl) (hap : ∀ j xs ys,sl = .own xs → j ≠ i → σ[j]? = some (.own ys) → a ≠ ad j)
    (h : ∀ s' m' cm',In P lev env ctx A prot H₀ H (σ.set i sl) s' m' cm' (fun j => if j = i then a else ad j) → Froz H s.heap H s'.heap → Moves prot s s' → (∀ b,b ≠ env.locals → (∀ y c,env.cells.lookup y = some c → b ≠ c) → s'.heap.get? b = s.heap.get? b) → Q () s') :
    wpAny (model P.prog P.w) A (storeName env x v) Q E s := by
  have hkind := X.st.ok.kind
  have _hlen : i < σ.length := by
    rw [X.sz]
    by_cases q : i < ctx.length
    · exact q
    · rw [List.getElem?_eq_none (by lia)] at hi; cases hi
  have fin : ∀ (s' : Shared) (m' cm' : Str → Option Value) (t : Addr),H t → ¬ prot t → (∃ h tk,s' = { s with heap := h,toks := tk }) → (∀ b,b ≠ t → s'.heap.get? b = s.heap.get? b) → (∃ o,s'.heap.get? t = some o) →
      (t = env.locals ∨ ∃ y,env.cells.lookup y = some t) → s'.heap.Ns env.locals m' → (∀ y c,env.cells.lookup y = some c → s'.heap.IsCell c (cm' y)) → vl env m' cm' x = some v → (∀ y,y ≠ x → vl env m' cm' y = vl env m cm y) → Q () s' := by
    intro s' m' cm' t hHt hpt same hs hl htt hns hcs hvx hvy
    obtain ⟨f,mv,hb,pg,pl⟩ := X.turn hHt hpt same hs hl
    have hown : ∀ j ys,σ[j]? = some (.own ys) → ad j ≠ t := fun j ys e q => by
      have o := X.own j ys e
      rcases htt with z | ⟨y,z⟩
      · exact o.2.2.1 (q.trans z)
      · exact o.2.2.2 y t z q
    refine h s' m' cm' ⟨⟨X.st.room,pg,hb,X.st.ok,⟨hns,hcs,fun j y sl' hj hσ => ?_⟩⟩,pl,X.sub,X.pgp,X.loc,X.cel,X.inj,fun j ys e => ?_,fun j k ys zs e e' n => ?_,X.nd,by rw [List.length_set]; exact X.sz⟩ f mv fun b n1 n2 => hs b fun q => ?_
    · by_cases q : j = i
      · subst q
        rw [hi] at hj; cases hj
        rw [List.getElem?_set_self (by lia)] at hσ
        cases hσ
        show SlotRep H s'.heap (vl env m' cm' x) (if j = j then a else ad j) sl
        rw [if_pos rfl,hvx]
        cases sl with
        | unset => trivial
        | val w => exact ⟨v,rfl,rep_froz f _ _ hsl⟩
        | own xs =>
          obtain ⟨rfl,hHa,⟨vs,p,r⟩,_,_,nL,nC⟩ := hsl
          have na : a ≠ t := by
            rcases htt with z | ⟨y,z⟩
            · rw [z]; exact nL
            · exact nC y t z
          exact ⟨rfl,hHa,vs,isList_mono p fun o e => (hs a na).trans e,repL_froz f _ _ r⟩
      · rw [List.getElem?_set_ne (fun z => q z.symm)] at hσ
        have hne : y ≠ x := fun z => by
          subst z
          exact q ((List.getElem?_inj (by
            by_cases w : j < ctx.length
            · exact w
            · rw [List.getElem?_eq_none (by lia)] at hj; cases hj) X.nd).mp (hj.trans hi.symm))
        have := X.st.vars.slot j y sl' hj hσ
        show SlotRep H s'.heap (vl env m' cm' y) (if j = i then a else ad j) sl'
        rw [if_neg q,hvy y hne]
        cases sl' with
        | unset => trivial
        | val w => obtain ⟨u,e,r⟩ := this; exact ⟨u,e,rep_froz f _ _ r⟩
        | own ys => obtain ⟨e,hh,vs,p,r⟩ := this; exact ⟨e,hh,vs,isList_mono p fun o e => (hs _ (hown j ys hσ)).trans e,repL_froz f _ _ r⟩
    · show ¬ prot (if j = i then a else ad j) ∧ _
      by_cases q : j = i
      · subst q
        rw [List.getElem?_set_self (by lia)] at e
        cases e
        rw [if_pos rfl]
        exact hsl.2.2.2
      · rw [List.getElem?_set_ne (fun z => q z.symm)] at e
        rw [if_neg q]
        exact X.own j ys e
    · show (if j = i then a else ad j) ≠ (if k = i then a else ad k)
      by_cases q : j = i
      · subst q
        rw [if_pos rfl,if_neg (Ne.symm n)]
        rw [List.getElem?_set_self (by lia)] at e
        rw [List.getElem?_set_ne n] at e'
        cases e
        exact hap k ys zs rfl (Ne.symm n) e'
      · rw [if_neg q]
        rw [List.getElem?_set_ne (fun z => q z.symm)] at e
        by_cases q' : k = i
        · subst q'
          rw [if_pos rfl]
          rw [List.getElem?_set_self (by lia)] at e'
          cases e'
          exact Ne.symm (hap j zs ys rfl q e)
        · rw [if_neg q']
          rw [List.getElem?_set_ne (fun z => q' z.symm)] at e'
          exact X.apart j k ys zs e e' n
    · rcases htt with z | ⟨y,z⟩
      · exact n1 (q.trans z)
      · exact n2 y t z q
  rcases hx with hl | ⟨hl,c,hc⟩
  · refine wpAny_storeName_local hl X.st.vars.ns (fun h' hn hs => ?_) (by rw [hkind]; rfl)
    refine fin _ _ cm env.locals X.loc.1 X.loc.2 ⟨h',_,rfl⟩ (fun b n => hs.2 b n) ?_ (.inl rfl) hn (fun y c e => (X.st.vars.cells y c e).sameBut hs (X.cel y c e).2.2) ?_ fun y n => vl_set_local hl n
    · obtain ⟨o,_,_,e,_⟩ := hn; exact ⟨o,e⟩
    · unfold vl; rw [if_pos hl]; simp
  · have C := X.cel x c hc
    refine wpAny_storeName_cell hkind hl hc (X.st.vars.cells x c hc) fun h' hv hs => ?_
    refine fin _ m (fun z => if z = x then some v else cm z) c C.1 C.2.1 ⟨h',_,rfl⟩ (fun b n => hs.2 b n) ?_ (.inr ⟨x,hc⟩) (X.st.vars.ns.sameBut hs (Ne.symm C.2.2)) (fun y c' e => ?_) ?_ fun y n => vl_set_cell n
    · obtain ⟨o,e,_⟩ := hv; exact ⟨o,e⟩
    · by_cases q : y = x
      · subst q; rw [hc] at e; cases e; simpa using hv
      · show h'.IsCell c' (if y = x then some v else cm y)
        rw [if_neg q]
        exact (X.st.vars.cells y c' e).sameBut hs fun z => q (X.inj y x c (z ▸ e) hc)
    · unfold vl; rw [if_neg (by rw [hl]; decide)]; simp
end
end Mine
end
section
open PySem PySem.W PyProof.Rows PySem.Calls
namespace Mine
noncomputable def bindsTo (tgt : Expr) (env : Env) (vals : List Value) : Sem Unit := match tgt with
  | .Tuple elts _ _ => assignInOrder ((assignEach elts env).map (·.2)) vals
  | t => (match vals with
    | [v] => assign t env v
    | _ => unsupported "none")
structure Wr (wr : List Addr) (s s' : Shared) : Prop where
  same : ∃ h tk,s' = { s with heap := h,toks := tk }
  keep : ∀ b o,b ∉ wr → s.heap.get? b = some o → s'.heap.get? b = some o
structure Feed (P : Pk) (A : Around) (I : Addr) (tgt : Expr) (n : Nat) (comps : Nat → List PV) (src : HS → Heap → Prop) (fp wr : List Addr) (StI : Nat → Heap → Prop) : Prop where
  sub : ∀ b ∈ wr,b ∈ fp
  live : ∀ i h,StI i h → ∀ b ∈ fp,∃ o,h.get? b = some o
  frame : ∀ i h h',StI i h → (∀ b ∈ fp,∀ o,h.get? b = some o → h'.get? b = some o) → StI i h'
  srcm : ∀ H h H' h',Froz H h H' h' → src H h → src H' h'
  item : ∀ i (H : HS) (s : Shared) (Z : Option Value → Shared → Prop) (E : Value → Shared → Prop),i < n → StI i s.heap → src H s.heap → (∀ b ∈ wr,H b) →
    (∀ v s₁,(∀ (env : Env) (Y : Unit → Shared → Prop) (E' E'' : Value → Shared → Prop),
        (∀ s₂ vals,RepL H s₂.heap (comps i) vals → StI (i + 1) s₂.heap → Wr wr s s₂ → wpAny (model P.prog P.w) A (bindsTo tgt env vals) Y E' s₂) →
        wpAny (model P.prog P.w) A (letOwnedTupleGo tgt (.ref I) v) (fun _ s' => wpAny (model P.prog P.w) A (assign tgt env v) Y E' s') E'' s₁) → Z (some v) s₁) →
    wpAny (model P.prog P.w) A (pyNext (.ref I)) Z E s
  done : ∀ (s : Shared) (Z : Option Value → Shared → Prop) (E : Value → Shared → Prop),StI n s.heap → (∀ s₂,Wr wr s s₂ → Z none s₂) → wpAny (model P.prog P.w) A (pyNext (.ref I)) Z E s
  self : ∀ i (s : Shared) (Q : Value → Shared → Prop) (E : Value → Shared → Prop),StI i s.heap → Q (.ref I) s → wpAny (model P.prog P.w) A (pyIter (.ref I)) Q E s
section
variable {P : Pk} {A : Around}
theorem wr_froz {H : HS} {wr : List Addr} {s s' : Shared} (w : Wr wr s s') (h : ∀ b ∈ wr,H b) : Froz H s.heap H s'.heap := fun b o n e => ⟨n,w.keep b o (fun q => n (h b q)) e⟩
theorem letGo_name {x : Str} {p : Pos} {it v : Value} {Q : Unit → Shared → Prop} {E : Value → Shared → Prop} {s : Shared} (h : Q () s) : wpAny (model P.prog P.w) A (letOwnedTupleGo (.Name x p) it v) Q E s := wpAny_pure h
theorem Feed.ofWalks {I : Addr} {x : Str} {p : Pos} {n : Nat} {fp wr : List Addr} {Pi : Nat → Value → Prop} {St : Nat → Heap → Prop} {src : HS → Heap → Prop} (item : Nat → PV)
    (W : Walks P.prog P.w A I fp wr n Pi St) (hl : ∀ i h,St i h → ∀ b ∈ fp,∃ o,h.get? b = some o) (hm : ∀ H h H' h',Froz H h H' h' → src H h → src H' h')
    (hP : ∀ i v H h,i < n → Pi i v → src H h → Rep H h (item i) v) : Feed P A I (.Name x p) n (fun i => [item i]) src fp wr St where
  sub := W.sub
  live := hl
  frame := W.frame
  srcm := hm
  item := fun i H s Z E hi st sr hw h => W.item i s _ _ hi st fun v h' tk hp st' hk => h v _ fun env Y E' E'' c =>
    letGo_name (c _ [v] (RepL.cons (hP i v H h' hi hp (hm H s.heap H h' (fun b o n e => ⟨n,hk b o (fun q => n (hw b q)) e⟩) sr)) RepL.nil) st' ⟨⟨h',tk,rfl⟩,hk⟩)
  done := fun s Z E st h => W.done s _ _ st fun h' tk hk => h _ ⟨⟨h',tk,rfl⟩,hk⟩
  self := W.self
theorem findStar {elts : List Expr} {env : Env} (h : (assignEach elts env).all (fun x => !x.1) = true) : (assignEach elts env).findIdx? (·.1) = none := by
  rw [List.findIdx?_eq_none_iff]
  intro x hx
  have := List.all_eq_true.mp h x hx
  simpa using this
theorem assign_pair {elts : List Expr} {k : Nat} {pos : Pos} {env : Env} {T : Addr} {vals : List Value} {s : Shared} {Y : Unit → Shared → Prop} {E : Value → Shared → Prop} (hA : A.handled = none)
    (hn : (assignEach elts env).length = vals.length) (hs : (assignEach elts env).all (fun x => !x.1) = true) (hT : s.heap.IsTuple T (List.toArray vals))
    (c : ∀ s',Keeps s s' → wpAny (model P.prog P.w) A (bindsTo (.Tuple elts k pos) env vals) Y E s') :
    wpAny (model P.prog P.w) A (assign (.Tuple elts k pos) env (.ref T)) Y E s := by
  refine wpAny_assign_Tuple hA hT (by rw [hn,List.size_toArray]) (findStar hs) fun h' hx => ?_
  have k : Keeps s { s with heap := h' } := ⟨h',s.toks,rfl,fun b o e => hx b o (fun q => Nat.lt_irrefl _ (q ▸ Heap.lt_size e)) e⟩
  exact c _ k
theorem Feed.ofWalksT {I : Addr} {x y : Str} {p q pos : Pos} {k : Nat} {n : Nat} {fp wr : List Addr} {Pt : Nat → Array Value → Prop} {St : Nat → Heap → Prop} {Mid : Nat → Addr → Heap → Prop} {src : HS → Heap → Prop} (a b : Nat → PV) (hA : A.handled = none)
    (W : WalksT P.prog P.w A I fp wr n Pt St Mid) (hl : ∀ i h,St i h → ∀ b ∈ fp,∃ o,h.get? b = some o) (hm : ∀ H h H' h',Froz H h H' h' → src H h → src H' h')
    (hP : ∀ i vals H h,i < n → Pt i vals → src H h → ∃ u v,vals = #[u,v] ∧ Rep H h (a i) u ∧ Rep H h (b i) v) : Feed P A I (.Tuple [.Name x p,.Name y q] k pos) n (fun i => [a i,b i]) src fp wr St where
  sub := W.sub
  live := hl
  frame := W.frame
  srcm := hm
  item := fun i H s Z E hi st sr hw h => W.item i s _ _ hi st fun T vals h' tk hp hT hTup mid hk => h _ _ fun env Y E' E'' c => by
    refine W.go _ _ _ i T _ _ _ mid fun h'' st' hk'' => ?_
    have hTw := W.apart i T h' mid
    have sr1 := hm H s.heap H h'' (fun b o n e => ⟨n,hk'' b o (fun q => n (hw b q)) (hk b o (fun q => n (hw b q)) e)⟩) sr
    obtain ⟨u,v,rfl,ru,rv⟩ := hP i vals H h'' hi hp sr1
    obtain ⟨o,ho,hr⟩ := hTup
    refine assign_pair (vals := [u,v]) hA rfl rfl ⟨o,hk'' T o hTw ho,hr⟩ fun s' k => ?_
    refine c s' [u,v] (RepL.cons (ru.keeps k) (RepL.cons (rv.keeps k) RepL.nil)) (W.frame _ _ _ st' fun b _ o e => keeps_get k b o e) ?_
    obtain ⟨h3,tk3,rfl,k3⟩ := k
    exact ⟨⟨h3,tk3,rfl⟩,fun b o n e => k3 b o (hk'' b o n (hk b o n e))⟩
  done := fun s Z E st h => W.done s _ _ st fun h' tk hk => h _ ⟨⟨h',tk,rfl⟩,hk⟩
  self := W.self
theorem Feed.pairs {I ax : Addr} {xs : List PV} {vs : List Value} {x y : Str} {p q pos : Pos} {k : Nat} (hA : A.handled = none) (hne : ax ≠ I) (a b : Nat → PV) (hl : xs.length = vs.length)
    (hx : ∀ (i : Nat) (z : PV),xs[i]? = some z → z = .tup [a i,b i]) :
    Feed P A I (.Tuple [.Name x p,.Name y q] k pos) vs.length (fun i => [a i,b i]) (fun H h => RepL H h xs vs) [I,ax] [I] (fun i h => h.IsListIter I ax i ∧ h.IsList ax (List.toArray vs)) := by
  have W := Walks.list (prog := P.prog) (w := P.w) hA I ax hne (List.toArray vs)
  have hsz : (List.toArray vs).size = vs.length := List.size_toArray
  refine ⟨W.sub,?_,W.frame,fun H h H' h' f r => repL_froz f _ _ r,?_,?_,W.self⟩
  · intro i h st c hc
    obtain ⟨⟨o,e,_⟩,⟨o2,e2,_⟩⟩ := st
    rcases List.mem_cons.mp hc with rfl | hc
    · exact ⟨_,e⟩
    · rcases List.mem_cons.mp hc with rfl | hc
      · exact ⟨_,e2⟩
      · cases hc
  · intro i H s Z E hi st sr hw h
    refine W.item i s _ _ (by lia) st fun v h' tk hp st' hk => h v _ fun env Y E' E'' c => ?_
    have sr1 : RepL H h' xs vs := repL_froz (fun b o n e => ⟨n,hk b o (fun q => n (hw b q)) e⟩) _ _ sr
    have hi' : i < xs.length := by lia
    obtain ⟨u,hu,ru⟩ := sr1.get (List.getElem?_eq_getElem hi')
    have hv : vs[i]? = some v := by simpa using hp
    rw [hv] at hu; cases hu
    have hz := hx i _ (List.getElem?_eq_getElem hi')
    rw [hz] at ru
    obtain ⟨T,us,rfl,nT,tT,qT,_⟩ := ru.tup_inv
    obtain ⟨u1,t1,rfl,r1,q1⟩ := qT.inv
    obtain ⟨u2,t2,rfl,r2,q2⟩ := q1.inv
    have := q2.inv_nil; subst this
    refine wpAny_letOwnedTupleGo_listiter st'.1 ?_
    refine assign_pair (vals := [u1,u2]) hA rfl rfl tT fun s' k => ?_
    refine c s' [u1,u2] (RepL.cons (r1.keeps k) (RepL.cons (r2.keeps k) RepL.nil)) (W.frame _ _ _ st' fun b _ o e => keeps_get k b o e) ?_
    obtain ⟨h3,tk3,rfl,k3⟩ := k
    exact ⟨⟨h3,tk3,rfl⟩,fun b o n e => k3 b o (hk b o n e)⟩
  · intro s Z E st h
    exact W.done s _ _ (by simpa using st) fun h' tk hk => h _ ⟨⟨h',tk,rfl⟩,hk⟩
end
noncomputable def ItJ (P : Pk) (lev : Nat) (env : Env) (ctx : List Str) (iter tgt : Expr) (tk : PV → Option (List PV)) (it : IDen) : Prop :=
  ∀ (A : Around) (H : HS) (σ : Sl) (s : Shared) (m cm : Str → Option Value) (ad : Nat → Addr) (xs : List PV) (Q : Value → Shared → Prop) (E : Value → Shared → Prop),
    St P lev env ctx A H σ s m cm ad → it σ = some xs → xs.all (fun x => (tk x).isSome) = true →
    (∀ I s₁ s₂ comps src fp wr StI,Keeps s s₁ → Keeps s₁ s₂ → Feed P A I tgt xs.length comps src fp wr StI → (∀ i x,xs[i]? = some x → tk x = some (comps i)) → StI 0 s₂.heap → src H s₁.heap →
      (∀ b ∈ wr,s₁.heap.get? b = none) → (∀ b ∈ fp,s₁.heap.get? b = none ∨ ¬ H b) → Q (.ref I) s₂) →
    wpAny (model P.prog P.w) A (eval iter env) (fun xv s₁ => wpAny (model P.prog P.w) A (pyIter xv) Q E s₁) E s
section
variable {P : Pk} {lev : Nat} {env : Env} {ctx : List Str}
theorem get_none_of_new {h : Heap} : h.get? h.objs.size = none := by
  cases e : h.get? h.objs.size with
  | none => rfl
  | some o => exact absurd (Heap.lt_size e) (Nat.lt_irrefl _)
theorem get_none_of_ge {h : Heap} {a : Addr} (q : h.objs.size ≤ a) : h.get? a = none := by
  cases e : h.get? a with
  | none => rfl
  | some o => exact absurd (Heap.lt_size e) (Nat.not_lt.mpr q)
theorem none_back {s s' : Shared} (k : Keeps s s') {a : Addr} (h : s'.heap.get? a = none) : s.heap.get? a = none := by
  cases e : s.heap.get? a with
  | none => rfl
  | some o => rw [keeps_get k a o e] at h; cases h
theorem list_live {I ax : Addr} {vs : Array Value} (i : Nat) (h : Heap) (st : h.IsListIter I ax i ∧ h.IsList ax vs) : ∀ b ∈ [I,ax],∃ o,h.get? b = some o := by
  obtain ⟨⟨o,e,_⟩,⟨o2,e2,_⟩⟩ := st
  intro c hc
  rcases List.mem_cons.mp hc with rfl | hc
  · exact ⟨_,e⟩
  · rcases List.mem_cons.mp hc with rfl | hc
    · exact ⟨_,e2⟩
    · cases hc
theorem it_name {e : Expr} {x : Str} {p : Pos} {d : Den} (he : Ev P lev env ctx e d) : ItJ P lev env ctx e (.Name x p) take1 (itv d) := fun A H σ s m cm ad xs Q E S h ha c => by
  unfold itv at h
  split at h
  · cases h
  · rename_i z hz
    refine he A H σ s m cm ad z _ E S hz fun v s₁ k₁ r => ?_
    have hd := S.room.handled
    unfold seqV at h
    split at h
    · cases h
      obtain ⟨la,vs,rfl,na,pa,qa,sa⟩ := r.list_inv
      have il := plain_isList pa
      have hlt : la < s₁.heap.objs.size := by obtain ⟨n,e⟩ := pa; exact Heap.lt_size e
      refine wpAny_pyIter_list il ?_
      have k2 := keeps_push s₁ { cls := .type "list_iterator",data := .fields #[.ref la,.int 0 0] }
      have hne : la ≠ s₁.heap.objs.size := Nat.ne_of_lt hlt
      have hlen := qa.length
      have F := Feed.ofWalks (x := x) (p := p) (P := P) (src := fun H h => RepL H h xs vs) (fun i => xs.getD i .none) (Walks.list (prog := P.prog) (w := P.w) hd s₁.heap.objs.size la hne (List.toArray vs)) (fun i h st => list_live i h st) (fun H h H' h' f r => repL_froz f _ _ r) (fun i v H h hi hp sr => by
        have hi' : i < xs.length := by rw [List.size_toArray] at hi; lia
        obtain ⟨u,hu,ru⟩ := sr.get (List.getElem?_eq_getElem hi')
        have hv : vs[i]? = some v := by simpa using hp
        rw [hv] at hu; cases hu
        rw [List.getD_eq_getElem?_getD,List.getElem?_eq_getElem hi']
        exact ru)
      rw [show (List.toArray vs).size = xs.length by rw [List.size_toArray,hlen]] at F
      refine c _ _ _ _ _ _ _ _ k₁ k2 F (fun i x hx => ?_) ⟨⟨_,Heap.get?_push_size _ rfl,rfl,rfl⟩,il.push _⟩ qa (fun b hb => ?_) (fun b hb => ?_)
      · unfold take1; rw [List.getD_eq_getElem?_getD,hx]; rfl
      · rcases List.mem_cons.mp hb with rfl | hb
        · exact get_none_of_new
        · cases hb
      · rcases List.mem_cons.mp hb with rfl | hb
        · exact .inl get_none_of_new
        · rcases List.mem_cons.mp hb with rfl | hb
          · exact .inr na
          · cases hb
    · cases h
      obtain ⟨la,vs,rfl,na,pa,qa,sa⟩ := r.tup_inv
      have hlt : la < s₁.heap.objs.size := by obtain ⟨o,e,_⟩ := pa; exact Heap.lt_size e
      refine wpAny_pyIter_tuple pa ?_
      have k2 := keeps_push s₁ { cls := .type "tuple_iterator",data := .fields #[.ref la,.int 0 0] }
      have hne : la ≠ s₁.heap.objs.size := Nat.ne_of_lt hlt
      have hlen := qa.length
      have F := Feed.ofWalks (x := x) (p := p) (P := P) (src := fun H h => RepL H h xs vs) (fun i => xs.getD i .none) (Walks.tuple (prog := P.prog) (w := P.w) hd s₁.heap.objs.size la hne (List.toArray vs)) (fun i h st => by
        obtain ⟨⟨o,e,_⟩,⟨o2,e2,_⟩⟩ := st
        intro c hc
        rcases List.mem_cons.mp hc with rfl | hc
        · exact ⟨_,e⟩
        · rcases List.mem_cons.mp hc with rfl | hc
          · exact ⟨_,e2⟩
          · cases hc) (fun H h H' h' f r => repL_froz f _ _ r) (fun i v H h hi hp sr => by
        have hi' : i < xs.length := by rw [List.size_toArray] at hi; lia
        obtain ⟨u,hu,ru⟩ := sr.get (List.getElem?_eq_getElem hi')
        have hv : vs[i]? = some v := by simpa using hp
        rw [hv] at hu; cases hu
        rw [List.getD_eq_getElem?_getD,List.getElem?_eq_getElem hi']
        exact ru)
      rw [show (List.toArray vs).size = xs.length by rw [List.size_toArray,hlen]] at F
      refine c _ _ _ _ _ _ _ _ k₁ k2 F (fun i x hx => ?_) ⟨⟨_,Heap.get?_push_size _ rfl,rfl,rfl⟩,pa.push _⟩ qa (fun b hb => ?_) (fun b hb => ?_)
      · unfold take1; rw [List.getD_eq_getElem?_getD,hx]; rfl
      · rcases List.mem_cons.mp hb with rfl | hb
        · exact get_none_of_new
        · cases hb
      · rcases List.mem_cons.mp hb with rfl | hb
        · exact .inl get_none_of_new
        · rcases List.mem_cons.mp hb with rfl | hb
          · exact .inr na
          · cases hb
    · cases h
theorem it_pairs {e : Expr} {x y : Str} {p q pos : Pos} {k : Nat} {d : Den} (he : Ev P lev env ctx e d) : ItJ P lev env ctx e (.Tuple [.Name x p,.Name y q] k pos) take2 (itl d) := fun A H σ s m cm ad xs Q E S h ha c => by
  unfold itl at h
  split at h
  · rename_i ys hz
    refine he A H σ s m cm ad _ _ E S hz fun v s₁ k₁ r => ?_
    have hd := S.room.handled
    · cases h
      obtain ⟨la,vs,rfl,na,pa,qa,sa⟩ := r.list_inv
      have il := plain_isList pa
      have hlt : la < s₁.heap.objs.size := by obtain ⟨n,e⟩ := pa; exact Heap.lt_size e
      refine wpAny_pyIter_list il ?_
      have k2 := keeps_push s₁ { cls := .type "list_iterator",data := .fields #[.ref la,.int 0 0] }
      have hne : la ≠ s₁.heap.objs.size := Nat.ne_of_lt hlt
      have hlen := qa.length
      have ht : ∀ (i : Nat) (z : PV),xs[i]? = some z → ∃ a b,z = .tup [a,b] := fun i z hz => by
        have := List.all_eq_true.mp ha z (List.mem_of_getElem? hz)
        unfold take2 at this
        split at this
        · exact ⟨_,_,rfl⟩
        · cases this
      let fst (z : PV) : PV := match z with | .tup [a,_] => a | _ => .none
      let snd (z : PV) : PV := match z with | .tup [_,b] => b | _ => .none
      have F := Feed.pairs (P := P) (A := A) (I := s₁.heap.objs.size) (ax := la) (xs := xs) (vs := vs) (x := x) (y := y) (p := p) (q := q) (pos := pos) (k := k) hd hne (fun i => fst (xs.getD i .none)) (fun i => snd (xs.getD i .none)) hlen.symm (fun i z hz => by
        obtain ⟨a,b,rfl⟩ := ht i z hz
        simp only [List.getD_eq_getElem?_getD,hz]; rfl)
      rw [hlen] at F
      refine c _ _ _ _ _ _ _ _ k₁ k2 F (fun i x hx => ?_) ⟨⟨_,Heap.get?_push_size _ rfl,rfl,rfl⟩,il.push _⟩ qa (fun b hb => ?_) (fun b hb => ?_)
      · obtain ⟨a,b,rfl⟩ := ht i x hx
        simp only [List.getD_eq_getElem?_getD,hx]; rfl
      · rcases List.mem_cons.mp hb with rfl | hb
        · exact get_none_of_new
        · cases hb
      · rcases List.mem_cons.mp hb with rfl | hb
        · exact .inl get_none_of_new
        · rcases List.mem_cons.mp hb with rfl | hb
          · exact .inr na
          · cases hb
  · cases h
end
end Mine
end
section
open PySem PySem.W PyProof.Rows PySem.Calls
namespace Mine
theorem upto_length (a : Int) : ∀ n,(upto a n).length = n
  | 0 => rfl
  | n + 1 => by simp [upto,upto_length (a + 1) n]
theorem upto_get (n : Nat) : ∀ (a : Int) (i : Nat) (x : PV),(upto a n)[i]? = some x → x = .int (a + i * 1) := by
  induction n with
  | zero => intro a i x h; simp [upto] at h
  | succ n ih =>
    intro a i x h
    cases i with
    | zero => simp [upto] at h; rw [← h]; simp
    | succ i =>
      have := ih (a + 1) i x (by simpa [upto] using h)
      rw [this]; congr 1; push_cast; lia
theorem downto_length (a : Int) : ∀ n,(downto a n).length = n
  | 0 => rfl
  | n + 1 => by simp [downto,downto_length (a - 1) n]
theorem downto_get (n : Nat) : ∀ (a : Int) (i : Nat) (x : PV),(downto a n)[i]? = some x → x = .int (a + i * (-1)) := by
  induction n with
  | zero => intro a i x h; simp [downto] at h
  | succ n ih =>
    intro a i x h
    cases i with
    | zero => simp [downto] at h; rw [← h]; simp
    | succ i =>
      have := ih (a - 1) i x (by simpa [downto] using h)
      rw [this]; congr 1; push_cast; lia
theorem rangeSize_neg (a b : Int) : Builtin.Range.rangeSize a b (-1) = if a > b then a - b else 0 := by
  unfold Builtin.Range.rangeSize
  rw [if_neg (by decide),show (- -1 : Int) = 1 by decide]
  simp only [Int.ediv_one]
  split <;> (first | decide | lia)
theorem small_neg {a b : Int} (ha : -(2 ^ 62) ≤ a) (ha' : a < 2 ^ 62) (hb : -(2 ^ 62) ≤ b) (hb' : b < 2 ^ 62) : Builtin.Range.small a b (-1) = true := by
  unfold Builtin.Range.small
  rw [rangeSize_neg]
  simp only [Builtin.Range.rangeFitsLong,Bool.and_eq_true,Bool.or_eq_true,decide_eq_true_eq,beq_iff_eq,show ¬ (-1 : Int) > 0 by decide,if_false]
  split <;> lia
section
variable {P : Pk} {lev : Nat} {env : Env} {ctx : List Str}
theorem range_src {A : Around} {H : HS} {s₀ s : Shared} {a b c : Int} {t u v : Tok} {r : Addr} {n : Nat} {x : Str} {p : Pos} {xs : List PV} {Q : Value → Shared → Prop} {E : Value → Shared → Prop} (hd : A.handled = none)
    (k₁ : Keeps s₀ s) (hr : IsRange s.heap r a b c t u v) (hs : Builtin.Range.small a b c = true) (hn : Builtin.Range.rangeSize a b c = n) (hl : xs.length = n) (hx : ∀ (i : Nat) (z : PV),xs[i]? = some z → z = .int (a + i * c))
    (q : ∀ I s₁ s₂ comps src fp wr StI,Keeps s₀ s₁ → Keeps s₁ s₂ → Feed P A I (.Name x p) xs.length comps src fp wr StI → (∀ i x,xs[i]? = some x → take1 x = some (comps i)) → StI 0 s₂.heap → src H s₁.heap →
      (∀ b ∈ wr,s₁.heap.get? b = none) → (∀ b ∈ fp,s₁.heap.get? b = none ∨ ¬ H b) → Q (.ref I) s₂) :
    wpAny (model P.prog P.w) A (pyIter (.ref r)) Q E s := by
  refine wpAny_pyIter_range hr hs ?_
  have k2 := keeps_push s { cls := .type "range_iterator",data := .fields #[rawInt a,rawInt (Builtin.Range.rangeSize a b c),rawInt c] }
  have F := Feed.ofWalks (x := x) (p := p) (P := P) (src := fun _ _ => True) (fun i => .int (a + (i : Nat) * c)) (Walks.range (prog := P.prog) (w := P.w) hd s.heap.objs.size a c n) (fun i h st => by
    intro z hz
    rcases List.mem_cons.mp hz with rfl | hz
    · exact ⟨_,st⟩
    · cases hz) (fun _ _ _ _ _ _ => trivial) (fun i v H h hi hp _ => by obtain ⟨t,rfl⟩ := hp; exact Rep.int _ _)
  rw [← hl] at F
  refine q _ _ _ _ _ _ _ _ k₁ k2 F (fun i x hx' => ?_) ?_ trivial (fun b hb => ?_) (fun b hb => ?_)
  · rw [hx i x hx']; rfl
  · show IsRangeIter _ _ _ _ _
    have e1 : (a + ((0 : Nat) : Int) * c) = a := by simp
    have e2 : ((n : Int) - ((0 : Nat) : Int)) = Builtin.Range.rangeSize a b c := by rw [hn]; simp
    rw [e1,hl,e2]
    exact Heap.get?_push_size _ rfl
  · rcases List.mem_cons.mp hb with rfl | hb
    · exact get_none_of_new
    · cases hb
  · rcases List.mem_cons.mp hb with rfl | hb
    · exact .inl get_none_of_new
    · cases hb
theorem it_call {f : Str} {p : Pos} {e : Expr} {es : List Expr} {pos : Pos} {id : String} {ds : List Den} {A : Around} {H : HS} {σ : Sl} {s : Shared} {m cm : Str → Option Value} {ad : Nat → Addr} {xs : List PV} {Q : Value → Shared → Prop} {E : Value → Shared → Prop}
    (S : St P lev env ctx A H σ s m cm ad) (N : BiName P env f (.type id)) (ha : EvL P lev env ctx (e :: es) ds)
    (hs : starEach (e :: es) env = (false,eval e env) :: starEach es env) (hp : (starEach (e :: es) env).any (·.1) = false) (hx : evs ds σ = some xs)
    (c : ∀ vs s',Keeps s s' → RepL H s'.heap xs vs → wpAny (model P.prog P.w) A (PySem.call (.type id) vs) Q E s') :
    wpAny (model P.prog P.w) A (eval (.Call (.Name f p) (e :: es) [] pos) env) Q E s := by
  rw [eval_call_name]
  refine wpAny_bind (name_builtin S N.k N.miss N.boot N.nn N.nd ?_)
  refine PySem.callWith_type (backTo_plain _ hp) (wp_args hs ?_)
  exact ha A H σ s m cm ad xs pos _ E S hx fun vs s₁ k₁ rs => c vs s₁ k₁ rs
theorem it_range1 {f : Str} {p : Pos} {e : Expr} {pos : Pos} {x : Str} {px : Pos} {d : Den} (N : BiName P env f (.type "range")) (he : Ev P lev env ctx e d)
    (hs : starEach [e] env = (false,eval e env) :: starEach [] env) : ItJ P lev env ctx (.Call (.Name f p) [e] [] pos) (.Name x px) take1 (itUp (ci 0) d) := fun A H σ s m cm ad xs Q E S h ha c => by
  unfold itUp at h
  split at h
  · rename_i a b h0 hb
    cases h0
    split at h
    · rename_i hk
      cases h
      simp only [okR,Bool.and_eq_true,decide_eq_true_eq] at hk
      have hb1 : b.natAbs ≤ 1000000 := hk.2
      refine it_call S N (evl_cons he evl_nil hs) hs (by rw [hs]; rfl) (xs := [.int b]) (by simp only [evs,hb]) fun vs s₁ k₁ rs => ?_
      obtain ⟨v,t,rfl,rv,rt⟩ := rs.inv
      have := rt.inv_nil; subst this
      obtain ⟨t,rfl⟩ := rv.int_inv
      refine call_range_1 ?_
      have k2 : Keeps s₁ { s₁ with heap := s₁.heap.push { cls := .type "range",data := .fields #[.int 0 s₁.toks,.int b t,.int 1 (s₁.toks + 1)] },toks := s₁.toks + 1 + 1 } := ⟨_,_,rfl,fun _ _ e => Heap.get?_push_of_some _ e⟩
      have hs1 : Builtin.Range.small 0 b 1 = true := small_one (by decide) (by decide) (by lia) (by lia)
      refine range_src (n := (b - 0).toNat) S.room.handled (keeps_tr k₁ k2) (IsRange.new _ _ _ _ _ _ _) hs1 ?_ (upto_length _ _) (upto_get _ _) c
      rw [rangeSize_one]; split <;> lia
    · cases h
  · cases h
theorem it_range2 {f : Str} {p : Pos} {e e' : Expr} {pos : Pos} {x : Str} {px : Pos} {d d' : Den} (N : BiName P env f (.type "range")) (he : Ev P lev env ctx e d) (he' : Ev P lev env ctx e' d')
    (hs : starEach [e,e'] env = (false,eval e env) :: starEach [e'] env) (hs' : starEach [e'] env = (false,eval e' env) :: starEach [] env) :
    ItJ P lev env ctx (.Call (.Name f p) [e,e'] [] pos) (.Name x px) take1 (itUp d d') := fun A H σ s m cm ad xs Q E S h ha c => by
  unfold itUp at h
  split at h
  · rename_i a b h0 hb
    split at h
    · rename_i hk
      cases h
      simp only [okR,Bool.and_eq_true,decide_eq_true_eq] at hk
      have hb1 : b.natAbs ≤ 1000000 := hk.2
      have ha1 : a.natAbs ≤ 1000000 := hk.1
      refine it_call S N (evl_cons he (evl_cons he' evl_nil hs') hs) hs (by rw [hs,hs']; rfl) (xs := [.int a,.int b]) (by simp only [evs,h0,hb]) fun vs s₁ k₁ rs => ?_
      obtain ⟨v,t,rfl,rv,rt⟩ := rs.inv
      obtain ⟨v',t',rfl,rv',rt'⟩ := rt.inv
      have := rt'.inv_nil; subst this
      obtain ⟨t,rfl⟩ := rv.int_inv
      obtain ⟨u,rfl⟩ := rv'.int_inv
      refine call_range_2 ?_
      have k2 : Keeps s₁ { s₁ with heap := s₁.heap.push { cls := .type "range",data := .fields #[.int a t,.int b u,.int 1 s₁.toks] },toks := s₁.toks + 1 } := ⟨_,_,rfl,fun _ _ e => Heap.get?_push_of_some _ e⟩
      have hs1 : Builtin.Range.small a b 1 = true := small_one (by lia) (by lia) (by lia) (by lia)
      refine range_src (n := (b - a).toNat) S.room.handled (keeps_tr k₁ k2) (IsRange.new _ _ _ _ _ _ _) hs1 ?_ (upto_length _ _) (upto_get _ _) c
      rw [rangeSize_one]; split <;> lia
    · cases h
  · cases h
theorem it_range3 {f : Str} {p : Pos} {e e' e'' : Expr} {pos : Pos} {x : Str} {px : Pos} {d d' : Den} (N : BiName P env f (.type "range")) (he : Ev P lev env ctx e d) (he' : Ev P lev env ctx e' d') (he'' : Ev P lev env ctx e'' (una negV (ci 1)))
    (hs : starEach [e,e',e''] env = (false,eval e env) :: starEach [e',e''] env) (hs' : starEach [e',e''] env = (false,eval e' env) :: starEach [e''] env) (hs'' : starEach [e''] env = (false,eval e'' env) :: starEach [] env) :
    ItJ P lev env ctx (.Call (.Name f p) [e,e',e''] [] pos) (.Name x px) take1 (itDown d d') := fun A H σ s m cm ad xs Q E S h ha c => by
  unfold itDown at h
  split at h
  · rename_i a b h0 hb
    split at h
    · rename_i hk
      cases h
      simp only [okR,Bool.and_eq_true,decide_eq_true_eq] at hk
      have hb1 : b.natAbs ≤ 1000000 := hk.2
      have ha1 : a.natAbs ≤ 1000000 := hk.1
      refine it_call S N (evl_cons he (evl_cons he' (evl_cons he'' evl_nil hs'') hs') hs) hs (by rw [hs,hs',hs'']; rfl) (xs := [.int a,.int b,.int (-1)]) (by simp only [evs,h0,hb]; rfl) fun vs s₁ k₁ rs => ?_
      obtain ⟨v,t,rfl,rv,rt⟩ := rs.inv
      obtain ⟨v',t',rfl,rv',rt'⟩ := rt.inv
      obtain ⟨v'',t'',rfl,rv'',rt''⟩ := rt'.inv
      have := rt''.inv_nil; subst this
      obtain ⟨t,rfl⟩ := rv.int_inv
      obtain ⟨u,rfl⟩ := rv'.int_inv
      obtain ⟨w,rfl⟩ := rv''.int_inv
      refine call_range_3 (by decide) ?_ (Or.inr ((S.keeps k₁).pg.pylong S.room))
      have k2 : Keeps s₁ { s₁ with heap := s₁.heap.push { cls := .type "range",data := .fields #[.int a t,.int b u,.int (-1) w] },toks := s₁.toks } := ⟨_,_,rfl,fun _ _ e => Heap.get?_push_of_some _ e⟩
      have hs1 : Builtin.Range.small a b (-1) = true := small_neg (by lia) (by lia) (by lia) (by lia)
      refine range_src (n := (a - b).toNat) S.room.handled (keeps_tr k₁ k2) (IsRange.new _ _ _ _ _ _ _) hs1 ?_ (downto_length _ _) (downto_get _ _) c
      rw [rangeSize_neg]; split <;> lia
    · cases h
  · cases h
theorem it_rev {f : Str} {p : Pos} {e : Expr} {pos : Pos} {x : Str} {px : Pos} {d : Den} (N : BiName P env f (.type "reversed")) (he : Ev P lev env ctx e d)
    (hs : starEach [e] env = (false,eval e env) :: starEach [] env) : ItJ P lev env ctx (.Call (.Name f p) [e] [] pos) (.Name x px) take1 (itRev d) := fun A H σ s m cm ad xs Q E S h ha c => by
  unfold itRev at h
  split at h
  · rename_i ys hy
    cases h
    refine it_call S N (evl_cons he evl_nil hs) hs (by rw [hs]; rfl) (xs := [.list ys]) (by simp only [evs,hy]) fun vs s₁ k₁ rs => ?_
    obtain ⟨v,t,rfl,rv,rt⟩ := rs.inv
    have := rt.inv_nil; subst this
    obtain ⟨la,us,rfl,na,pa,qa,sa⟩ := rv.list_inv
    have il := plain_isList pa
    have hlt : @LT.lt Nat _ la s₁.heap.objs.size := by obtain ⟨n,e⟩ := pa; exact Heap.lt_size e
    have hlen := qa.length
    have hne : la ≠ s₁.heap.objs.size := Nat.ne_of_lt hlt
    refine call_reversed_list il ?_
    have k2 := keeps_push s₁ (revObj la (((List.toArray us).size : Int) - 1))
    have hit : Heap.IsRevIter (s₁.heap.push (revObj la (((List.toArray us).size : Int) - 1))) s₁.heap.objs.size la (((List.toArray us).size : Int) - 1) := ⟨_,Heap.get?_push_size _ rfl,rfl,rfl⟩
    refine wpAny_pyIter_revIter hit ?_
    have hz : (List.toArray us).size = ys.length := by rw [List.size_toArray,hlen]
    have F := Feed.ofWalks (x := x) (p := px) (P := P) (src := fun H h => RepL H h ys us) (fun i => ys.reverse.getD i .none) (Walks.listRev (prog := P.prog) (w := P.w) S.room.handled s₁.heap.objs.size la hne (List.toArray us)) (fun i h st => by
        obtain ⟨_,⟨o,e,_⟩,⟨o2,e2,_⟩⟩ := st
        intro c hc
        rcases List.mem_cons.mp hc with rfl | hc
        · exact ⟨_,e⟩
        · rcases List.mem_cons.mp hc with rfl | hc
          · exact ⟨_,e2⟩
          · cases hc) (fun H h H' h' f r => repL_froz f _ _ r) (fun i v H h hi hp sr => by
        rw [hz] at hi hp
        have hi' : ys.length - 1 - i < ys.length := by lia
        obtain ⟨u,hu,ru⟩ := sr.get (List.getElem?_eq_getElem hi')
        have hv : us[ys.length - 1 - i]? = some v := by simpa using hp
        rw [hv] at hu; cases hu
        rw [List.getD_eq_getElem?_getD,List.getElem?_reverse (by lia),List.getElem?_eq_getElem hi']
        exact ru)
    rw [hz] at F
    rw [← List.length_reverse] at F
    refine c _ _ _ _ _ _ _ _ k₁ k2 F (fun i x hx => ?_) ⟨Nat.zero_le _,by rw [List.length_reverse,← hz]; simpa using hit,il.push _⟩ qa (fun b hb => ?_) (fun b hb => ?_)
    · unfold take1; rw [List.getD_eq_getElem?_getD,hx]; rfl
    · rcases List.mem_cons.mp hb with rfl | hb
      · exact get_none_of_new
      · cases hb
    · rcases List.mem_cons.mp hb with rfl | hb
      · exact .inl get_none_of_new
      · rcases List.mem_cons.mp hb with rfl | hb
        · exact .inr na
        · cases hb
  · cases h
theorem enum_length : ∀ (xs : List PV) (n : Int),(enumFrom' n xs).length = xs.length
  | [],_ => rfl
  | x :: r,n => by simp [enumFrom',enum_length r]
theorem enum_get : ∀ (xs : List PV) (n : Int) (i : Nat) (z : PV),(enumFrom' n xs)[i]? = some z → z = .tup [.int (n + i),xs.getD i .none]
  | [],_,i,z,h => by simp [enumFrom'] at h
  | x :: r,n,i,z,h => by
    cases i with
    | zero => simp [enumFrom'] at h; rw [← h]; simp
    | succ i =>
      have := enum_get r (n + 1) i z (by simpa [enumFrom'] using h)
      rw [this]; congr 2
      · congr 1; push_cast; lia
theorem it_enum {f : Str} {p : Pos} {e : Expr} {pos : Pos} {x y : Str} {px py pt : Pos} {k : Nat} {d : Den} (N : BiName P env f (.type "enumerate")) (he : Ev P lev env ctx e d)
    (hs : starEach [e] env = (false,eval e env) :: starEach [] env) : ItJ P lev env ctx (.Call (.Name f p) [e] [] pos) (.Tuple [.Name x px,.Name y py] k pt) take2 (itEnum d) := fun A H σ s m cm ad xs Q E S h ha c => by
  unfold itEnum at h
  split at h
  · rename_i ys hy
    cases h
    refine it_call S N (evl_cons he evl_nil hs) hs (by rw [hs]; rfl) (xs := [.list ys]) (by simp only [evs,hy]) fun vs s₁ k₁ rs => ?_
    obtain ⟨v,t,rfl,rv,rt⟩ := rs.inv
    have := rt.inv_nil; subst this
    obtain ⟨la,us,rfl,na,pa,qa,sa⟩ := rv.list_inv
    have il := plain_isList pa
    have hlt : @LT.lt Nat _ la s₁.heap.objs.size := by obtain ⟨n,e⟩ := pa; exact Heap.lt_size e
    have hlen := qa.length
    have hz : (List.toArray us).size = ys.length := by rw [List.size_toArray,hlen]
    refine call_enumerate_list il fun h' hE hI hsz hk => ?_
    have k2 : Keeps s₁ { s₁ with heap := h' } := ⟨h',s₁.toks,rfl,hk⟩
    refine wpAny_pyIter_enum hE ?_
    have W := WalksT.enumerate (prog := P.prog) (w := P.w) S.room.handled (s₁.heap.objs.size + 1) s₁.heap.objs.size la (neN (by lia)) (neN (by lia)) (neN (by lia)) (List.toArray us)
    have F := Feed.ofWalksT (x := x) (y := y) (p := px) (q := py) (pos := pt) (k := k) (P := P) (src := fun H h => RepL H h ys us) (fun i => .int (0 + (i : Nat))) (fun i => ys.getD i .none) S.room.handled W (fun i h st => by
        obtain ⟨⟨old,e1⟩,⟨o,e2,_⟩,⟨o3,e3,_⟩⟩ := st
        intro c hc
        rcases List.mem_cons.mp hc with rfl | hc
        · exact ⟨_,e1⟩
        · rcases List.mem_cons.mp hc with rfl | hc
          · exact ⟨_,e2⟩
          · rcases List.mem_cons.mp hc with rfl | hc
            · exact ⟨_,e3⟩
            · cases hc) (fun H h H' h' f r => repL_froz f _ _ r) (fun i vals H h hi hp sr => by
        rw [hz] at hi
        obtain ⟨t,v,hv,rfl⟩ := hp
        have hv' : us[i]? = some v := by simpa using hv
        obtain ⟨u,hu,ru⟩ := sr.get (List.getElem?_eq_getElem hi)
        rw [hv'] at hu; cases hu
        refine ⟨_,_,rfl,by rw [Int.zero_add]; exact Rep.int _ _,?_⟩
        rw [List.getD_eq_getElem?_getD,List.getElem?_eq_getElem hi]
        exact ru)
    rw [hz,← enum_length ys 0] at F
    refine c _ _ _ _ _ _ _ _ k₁ k2 F (fun i x hx => ?_) ⟨⟨_,hE⟩,hI,plain_isList (isList_mono pa fun o e => hk _ o e)⟩ qa (fun b hb => ?_) (fun b hb => ?_)
    · rw [enum_get _ _ _ _ hx]; rfl
    · rcases List.mem_cons.mp hb with rfl | hb
      · exact get_none_of_ge (by lia)
      · rcases List.mem_cons.mp hb with rfl | hb
        · exact get_none_of_new
        · cases hb
    · rcases List.mem_cons.mp hb with rfl | hb
      · exact .inl (get_none_of_ge (by lia))
      · rcases List.mem_cons.mp hb with rfl | hb
        · exact .inl get_none_of_new
        · rcases List.mem_cons.mp hb with rfl | hb
          · exact .inr na
          · cases hb
  · cases h
theorem zip_length : ∀ (xs ys : List PV),xs.length = ys.length → (zipT xs ys).length = xs.length
  | [],_,_ => rfl
  | x :: r,[],h => by simp at h
  | x :: r,y :: t,h => by simp [zipT,zip_length r t (by simpa using h)]
theorem zip_get : ∀ (xs ys : List PV) (i : Nat) (z : PV),(zipT xs ys)[i]? = some z → z = .tup [xs.getD i .none,ys.getD i .none]
  | [],_,i,z,h => by simp [zipT] at h
  | x :: r,[],i,z,h => by simp [zipT] at h
  | x :: r,y :: t,i,z,h => by
    cases i with
    | zero => simp [zipT] at h; rw [← h]; simp
    | succ i =>
      have := zip_get r t i z (by simpa [zipT] using h)
      rw [this]; simp
theorem it_zip {f : Str} {p : Pos} {e e' : Expr} {pos : Pos} {x y : Str} {px py pt : Pos} {k : Nat} {d d' : Den} (N : BiName P env f (.type "zip")) (he : Ev P lev env ctx e d) (he' : Ev P lev env ctx e' d')
    (hs : starEach [e,e'] env = (false,eval e env) :: starEach [e'] env) (hs' : starEach [e'] env = (false,eval e' env) :: starEach [] env) :
    ItJ P lev env ctx (.Call (.Name f p) [e,e'] [] pos) (.Tuple [.Name x px,.Name y py] k pt) take2 (itZip d d') := fun A H σ s m cm ad xs Q E S h ha c => by
  unfold itZip at h
  split at h
  · rename_i ys zs hy hw
    split at h
    · rename_i hl
      cases h
      refine it_call S N (evl_cons he (evl_cons he' evl_nil hs') hs) hs (by rw [hs,hs']; rfl) (xs := [.list ys,.list zs]) (by simp only [evs,hy,hw]) fun vs s₁ k₁ rs => ?_
      obtain ⟨v,t,rfl,rv,rt⟩ := rs.inv
      obtain ⟨v',t',rfl,rv',rt'⟩ := rt.inv
      have := rt'.inv_nil; subst this
      obtain ⟨la,us,rfl,na,pa,qa,sa⟩ := rv.list_inv
      obtain ⟨lb,ws,rfl,nb,pb,qb,sb⟩ := rv'.list_inv
      have il := plain_isList pa
      have jl := plain_isList pb
      have hlt : @LT.lt Nat _ la s₁.heap.objs.size := by obtain ⟨n,e⟩ := pa; exact Heap.lt_size e
      have hlt' : @LT.lt Nat _ lb s₁.heap.objs.size := by obtain ⟨n,e⟩ := pb; exact Heap.lt_size e
      have hlen := qa.length
      have hlen' := qb.length
      have hz : min (List.toArray us).size (List.toArray ws).size = ys.length := by rw [List.size_toArray,List.size_toArray,hlen,hlen',hl]; simp
      refine call_zip_2 il jl fun h' hZ hTI hTO h1 h2 hsz hk => ?_
      have k2 : Keeps s₁ { s₁ with heap := h' } := ⟨h',s₁.toks,rfl,hk⟩
      refine wpAny_pyIter_zip hZ ?_
      have D : ZipApart (s₁.heap.objs.size + 4) (s₁.heap.objs.size + 2) (s₁.heap.objs.size + 3) s₁.heap.objs.size (s₁.heap.objs.size + 1) la lb := by constructor <;> (refine neN ?_; lia)
      have W := WalksT.zip2 (prog := P.prog) (w := P.w) S.room.handled _ _ _ _ _ la lb D (List.toArray us) (List.toArray ws)
      have F := Feed.ofWalksT (x := x) (y := y) (p := px) (q := py) (pos := pt) (k := k) (P := P) (src := fun H h => RepL H h ys us ∧ RepL H h zs ws) (fun i => ys.getD i .none) (fun i => zs.getD i .none) S.room.handled W (fun i h st => by
          obtain ⟨e1,e2,⟨a,b,e3⟩,⟨o4,e4,_⟩,⟨o5,e5,_⟩,⟨o6,e6,_⟩,⟨o7,e7,_⟩⟩ := st
          intro c hc
          simp only [List.mem_cons,List.not_mem_nil,or_false] at hc
          rcases hc with rfl | rfl | rfl | rfl | rfl | rfl | rfl
          · exact ⟨_,e1⟩
          · exact ⟨_,e2⟩
          · exact ⟨_,e3⟩
          · exact ⟨_,e4⟩
          · exact ⟨_,e5⟩
          · exact ⟨_,e6⟩
          · exact ⟨_,e7⟩) (fun H h H' h' f r => ⟨repL_froz f _ _ r.1,repL_froz f _ _ r.2⟩) (fun i vals H h hi hp sr => by
          rw [hz] at hi
          obtain ⟨u,v,hu,hv,rfl⟩ := hp
          have hu' : us[i]? = some u := by simpa using hu
          have hv' : ws[i]? = some v := by simpa using hv
          have hi2 : i < zs.length := by lia
          obtain ⟨u',hu2,ru⟩ := sr.1.get (List.getElem?_eq_getElem hi)
          obtain ⟨v',hv2,rv⟩ := sr.2.get (List.getElem?_eq_getElem hi2)
          rw [hu'] at hu2; cases hu2
          rw [hv'] at hv2; cases hv2
          refine ⟨_,_,rfl,?_,?_⟩
          · rw [List.getD_eq_getElem?_getD,List.getElem?_eq_getElem hi]; exact ru
          · rw [List.getD_eq_getElem?_getD,List.getElem?_eq_getElem hi2]; exact rv)
      rw [hz,← zip_length ys zs hl] at F
      refine c _ _ _ _ _ _ _ _ k₁ k2 F (fun i x hx => ?_) ⟨hZ,hTI,⟨_,_,hTO⟩,h1,h2,plain_isList (isList_mono pa fun o e => hk _ o e),plain_isList (isList_mono pb fun o e => hk _ o e)⟩ ⟨qa,qb⟩ (fun b hb => ?_) (fun b hb => ?_)
      · rw [zip_get _ _ _ _ hx]; rfl
      · simp only [List.mem_cons,List.not_mem_nil,or_false] at hb
        rcases hb with rfl | rfl | rfl | rfl <;> exact get_none_of_ge (by lia)
      · simp only [List.mem_cons,List.not_mem_nil,or_false] at hb
        rcases hb with rfl | rfl | rfl | rfl | rfl | rfl | rfl
        · exact .inl (get_none_of_ge (by lia))
        · exact .inl (get_none_of_ge (by lia))
        · exact .inl (get_none_of_ge (by lia))
        · exact .inl (get_none_of_ge (by lia))
        · exact .inl (get_none_of_ge (by lia))
        · exact .inr na
        · exact .inr nb
    · cases h
  · cases h
end
end Mine
end
section
open PySem PySem.W PyProof.Rows PySem.Calls
namespace Mine
section
variable {prog : Program} {w : World} {A : Around} {s : Shared}
theorem codeAny_compLoop_any {R : Result → Shared → Prop} {elt target iter : Expr} {ifs : List Expr} {scope : Scope} {pos : Pos} {it acc : Value} {env : Env} (I : Nat → Shared → Prop)
    (turn : ∀ n s,I n s → wpAny (model prog w) A (pyNext it) (fun r s₁ => match r with
      | none => R (.ok .next) s₁
      | some v => wpAny (model prog w) A (letOwnedTupleGo target it v) (fun _ s₁' => wpAny (model prog w) A (assign target env v) (fun _ s₂ =>
          wpAny (model prog w) A (forIn ifs true fun c r => if r = true then do let ok ← PySem.isTrue c env (eval c env); pure (ForInStep.yield ok) else pure (ForInStep.yield r)) (fun ok s₃ =>
            if ok = true then wpAny (model prog w) A (eval elt env) (fun x s₄ =>
              wpAny (model prog w) A (PySem.call (.builtin "list.append") [acc,x]) (fun _ s₅ => ∃ m,m < n ∧ I m s₅) (notedBy (model prog w) A env fun e s' => R (.error e) s') s₄) (notedBy (model prog w) A env fun e s' => R (.error e) s') s₃
            else ∃ m,m < n ∧ I m s₃) (notedBy (model prog w) A env fun e s' => R (.error e) s') s₂) (notedBy (model prog w) A env fun e s' => R (.error e) s') s₁') (notedBy (model prog w) A env fun e s' => R (.error e) s') s₁) (notedBy (model prog w) A env fun e s' => R (.error e) s') s)
    (n : Nat) (h : I n s) :
    codeAny (model prog w) A (.compLoop (.ListComp elt [⟨target,iter,ifs,0⟩] scope pos) 0 it acc env) R s := by
  refine codeAny_loop rfl I (fun n s hI => ?_) n h
  show wpAny _ A ((compTurn (.ListComp elt [⟨target,iter,ifs,0⟩] scope pos) 0 it acc env).onRaise (fun x => do noteFrame x env; theTreesLotGoes x)) _ _ s
  refine wpAny_noted ?_
  rw [compTurn_list]
  refine wpAny_bind (wpAny_standAt (wpAny_bind (wpAny_mono (turn n s hI) (fun r s₁ h₁ => ?_) fun _ _ h' => h')))
  cases r with
  | none => exact wpAny_pure h₁
  | some v =>
    refine wpAny_bind (wpAny_mono h₁ (fun _ s₁' h₁' => ?_) fun _ _ h' => h')
    refine wpAny_bind (wpAny_mono h₁' (fun _ s₂ h₂ => wpAny_bind (wpAny_mono h₂ (fun ok s₃ h₃ => ?_) fun _ _ h' => h')) fun _ _ h' => h')
    cases ok with
    | false => exact wpAny_pure ⟨rfl,h₃⟩
    | true =>
      exact wpAny_bind (wpAny_bind (wpAny_mono h₃ (fun x s₄ h₄ => wpAny_bind (wpAny_mono h₄ (fun _ s₅ h₅ => wpAny_pure (wpAny_pure ⟨rfl,h₅⟩)) fun _ _ h' => h')) fun _ _ h' => h'))
end
inductive TgtOk : Expr → List Str → Prop
  | one (x p) : TgtOk (.Name x p) [x]
  | two (x p y q k pos) (h : x ≠ y) : TgtOk (.Tuple [.Name x p,.Name y q] k pos) [x,y]
section
variable {P : Pk} {A : Around}
theorem comp_bind {tgt : Expr} {names : List Str} {env : Env} {vals : List Value} {s : Shared} {m : Str → Option Value} {Y : Unit → Shared → Prop} {E : Value → Shared → Prop} (ht : TgtOk tgt names) (hn : names.length = vals.length)
    (hl : ∀ x ∈ names,env.kindOf x = some .local) (hk : env.scope.kind = .function) (hns : s.heap.Ns env.locals m)
    (c : ∀ h' tk m',h'.Ns env.locals m' → (∀ (i : Nat) (x : Str) (v : Value),names[i]? = some x → vals[i]? = some v → m' x = some v) → Heap.SameBut env.locals s.heap h' → Y () { s with heap := h',toks := tk }) :
    wpAny (model P.prog P.w) A (bindsTo tgt env vals) Y E s := by
  have hp : (env.scope.kind == .class || (env.scope.kind == .module && env.locals != env.globals)) = false := by rw [hk]; rfl
  cases ht with
  | one x p =>
    obtain ⟨v,rfl⟩ := len1 (l := vals) hn.symm
    next =>
      refine wpAny_assign_Name (wpAny_storeName_local (hl x (by simp)) hns (fun h' hn' hs => ?_) hp)
      refine c h' _ _ hn' (fun i y u hy hu => ?_) hs
      cases i with
      | zero => simp at hy hu; subst hy; subst hu; simp
      | succ i => simp at hy
  | two x p y q k pos hxy =>
    obtain ⟨u,v,rfl⟩ := len2 (l := vals) hn.symm
    next =>
      show wpAny _ _ (assignInOrder [assign (.Name x p) env,assign (.Name y q) env] [u,v]) _ _ _
      unfold assignInOrder
      refine wpAny_bind (wpAny_holding (wpAny_assign_Name (wpAny_storeName_local (hl x (by simp)) hns (fun h' hn' hs => ?_) hp)))
      unfold assignInOrder
      refine wpAny_bind (wpAny_holding (wpAny_assign_Name (wpAny_storeName_local (hl y (by simp)) hn' (fun h'' hn'' hs' => ?_) hp)))
      unfold assignInOrder
      refine wpAny_pure (c h'' _ _ hn'' (fun i z t hz ht => ?_) ⟨hs'.1.trans hs.1,fun b n => (hs'.2 b n).trans (hs.2 b n)⟩)
      match i with
      | 0 => simp at hz ht; subst hz; subst ht; simp [hxy]
      | 1 => simp at hz ht; subst hz; subst ht; simp
      | (i + 2) => simp at hz
noncomputable def IfsOk (P : Pk) (lev : Nat) (env : Env) (ctx : List Str) (ifs : List Expr) (t : TDen) : Prop := (ifs = [] ∧ t = ttrue) ∨ ∃ c,ifs = [c] ∧ Ts P lev env ctx c t
theorem ifs_run {lev : Nat} {env : Env} {ctx : List Str} {ifs : List Expr} {t : TDen} {H : HS} {σ : Sl} {s : Shared} {m cm : Str → Option Value} {ad : Nat → Addr} {b : Bool} {Q : Bool → Shared → Prop} {E : Value → Shared → Prop}
    (hi : IfsOk P lev env ctx ifs t) (S : St P lev env ctx A H σ s m cm ad) (h : t σ = some b) (c : ∀ s',Keeps s s' → Q b s') :
    wpAny (model P.prog P.w) A (forIn ifs true fun c r => if r = true then do let ok ← PySem.isTrue c env (eval c env); pure (ForInStep.yield ok) else pure (ForInStep.yield r)) Q E s := by
  rcases hi with ⟨rfl,rfl⟩ | ⟨e,rfl,he⟩
  · unfold ttrue at h; cases h
    rw [List.forIn_nil]; exact wpAny_pure (c s (keeps_refl s))
  · rw [List.forIn_cons]
    refine wpAny_bind ?_
    rw [if_pos rfl]
    refine wpAny_bind (he A H σ s m cm ad b _ E S h fun s₁ k₁ => wpAny_pure ?_)
    show wpAny _ _ (forIn [] b _) _ _ _
    rw [List.forIn_nil]; exact wpAny_pure (c s₁ k₁)
end
theorem frees_some : ∀ {fr : List Nat} {σ f : Sl},frees fr σ = some f → f.length = fr.length ∧ ∀ (j i : Nat),fr[j]? = some i → ∃ v,σ[i]? = some (.val v) ∧ f[j]? = some (.val v)
  | [],σ,f,h => by simp [frees] at h; subst h; simp
  | k :: r,σ,f,h => by
    unfold frees at h
    split at h
    · rename_i v hv
      split at h
      · rename_i t ht
        cases h
        obtain ⟨h1,h2⟩ := frees_some ht
        refine ⟨by simp [h1],fun j i hj => ?_⟩
        cases j with
        | zero => simp at hj; subst hj; exact ⟨v,hv,by simp⟩
        | succ j => simp at hj; obtain ⟨u,a,b⟩ := h2 j i hj; exact ⟨u,a,by simpa using b⟩
      · cases h
    · cases h
theorem froz_new {H : HS} {s₁ s₂ : Shared} {wr : List Addr} (k : Keeps s₁ s₂) (hw : ∀ b ∈ wr,s₁.heap.get? b = none) {H' : HS} (hH : ∀ b,H' b → H b ∨ b ∈ wr ∨ s₁.heap.get? b = none) : Froz H s₁.heap H' s₂.heap :=
  fun b o n e => ⟨fun q => (by
    rcases hH b q with h | h | h
    · exact n h
    · rw [hw b h] at e; cases e
    · rw [h] at e; cases e),keeps_get k b o e⟩
theorem compGo_length {tk : PV → Option (List PV)} {fr : Sl} {t : TDen} {e : Den} : ∀ {xs ys : List PV},compGo tk fr t e xs = some ys → ys.length ≤ xs.length
  | [],ys,h => by simp [compGo] at h; subst h; simp
  | x :: r,ys,h => by
    unfold compGo at h
    split at h
    · cases h
    · split at h
      · cases h
      · have := compGo_length h; simp; lia
      · split at h
        · cases h
        · split at h
          · cases h
          · rename_i hr; cases h; have := compGo_length hr; simp; lia
structure CompOk (env : Env) (ctx : List Str) (scope : Scope) (cl : List (Str × Addr)) (names : List Str) (fr : List Nat) (ctx' : List Str) : Prop where
  clos : closureFor scope env = pure cl
  sub : ∀ x c,cl.lookup x = some c → env.cells.lookup x = some c
  cell : ∀ y ∈ scope.names,y.2 ≠ .cell
  kind : scope.kind = .function
  gen : scope.isGenerator = false
  cor : scope.isCoroutine = false
  nloc : ∀ y ∈ scope.names,y.2 = .local → scope.names.lookup y.1 = some .local
  tgt : ∀ x ∈ names,scope.names.lookup x = some .local
  pre : ∀ (i : Nat),i < names.length → ctx'[i]? = names[i]?
  fre : ∀ (j i : Nat),fr[j]? = some i → ∃ y,ctx[i]? = some y ∧ ctx'[names.length + j]? = some y ∧ env.kindOf y = some .cell ∧ ∀ C,(compEnvC scope cl C env).kindOf y ≠ some .local
  len : ctx'.length = names.length + fr.length
section
variable {P : Pk} {lev : Nat} {env : Env} {ctx : List Str}
structure CompEnd (P : Pk) (H : HS) (s s' : Shared) (D C : Addr) (out : List PV) (ys : List Value) : Prop where
  keep : Keeps s s'
  newD : s.heap.get? D = none
  newC : s.heap.get? C = none
  ne : D ≠ C
  ns : ∃ m,s'.heap.Ns C m
  pl : s'.heap.PlainList D (List.toArray ys)
  rep : ∃ H',RepL H' s'.heap out ys ∧ (∀ b,H b → H' b) ∧ H' D ∧ H' C
theorem comp_core {A : Around} {H : HS} {σ : Sl} {s : Shared} {m cm : Str → Option Value} {ad : Nat → Addr} {E : Value → Shared → Prop} {elt tgt iter : Expr} {ifs : List Expr} {scope : Scope} {cl : List (Str × Addr)} {pos : Pos}
    {names ctx' : List Str} {fr : List Nat} {tk : PV → Option (List PV)} {it : IDen} {t : TDen} {de : Den} {out : List PV} {use : Option (Value → Sem Unit)} {Q : Value → Shared → Prop} {ipos : Pos}
    (S : St P lev env ctx A H σ s m cm ad) (K : CompOk env ctx scope cl names fr ctx') (ht : TgtOk tgt names) (hit : ItJ P lev env ctx iter tgt tk it) (htk : ∀ x vs,tk x = some vs → vs.length = names.length)
    (hif : ∀ C,IfsOk P lev (compEnvC scope cl C env) ctx' ifs t) (hel : ∀ C,Ev P lev (compEnvC scope cl C env) ctx' elt de)
    (hs : ∀ x,foldedSetIterable iter env x = pure x) (h : comp it tk fr t de σ = some (.list out))
    (c : ∀ s' D C ys,CompEnd P H s s' D C out ys → out.length ≤ lenMax → compPost (model P.prog P.w) A E use Q (.ref D) C (.ok .next) s') :
    wpAny (model P.prog P.w) A (comprehension (.ListComp elt [⟨tgt,iter,ifs,0⟩] scope pos) scope env ipos (newList []) false (eval iter env) use) Q E s := by
  unfold comp at h
  split at h
  · cases h
  rename_i xs hxs
  split at h
  case isFalse => cases h
  rename_i hlen
  split at h
  · cases h
  rename_i f hf
  split at h
  · cases h
  rename_i _ hgo
  cases h
  obtain ⟨hlen,hall⟩ := hlen
  have hlen' : xs.length ≤ 1000000 := hlen
  refine wpAny_comprehension_free rfl hs K.clos K.kind K.nloc ?_
  refine hit A H σ s m cm ad xs _ E S hxs hall fun I s₁ s₂ comps src fp wr StI k₁ k₂ F hcomps hst hsrc hwr hfp => ?_
  have S2 := S.keeps (keeps_tr k₁ k₂)
  have hlive0 := F.live 0 _ hst
  refine wpAny_newObj_type (wpAny_newFunctionEnv K.cell (by intro y hy; simp at hy) (fun h₁ hns₁ hsb₁ => ?_) K.kind)
  dsimp only at hns₁ hsb₁ ⊢
  generalize hH2 : s₂.heap.push { cls := .type "list",dict := none,data := .seq ([] : List Value).toArray } = H2 at hns₁ hsb₁ ⊢
  have hC : H2.objs.size = s₂.heap.objs.size + 1 := by rw [← hH2,Heap.size_push]
  generalize hD' : s₂.heap.objs.size = D at *
  generalize hC' : H2.objs.size = C at *
  have hDC : D ≠ C := by rw [hC]; exact Nat.ne_of_lt (Nat.lt_succ_self _)
  have lt : ∀ {b : Addr} {o : Obj},s₂.heap.get? b = some o → b ≠ D ∧ b ≠ C := fun {b o} e => by
    have := Heap.lt_size e
    rw [hD'] at this
    exact ⟨Nat.ne_of_lt this,by rw [hC]; exact Nat.ne_of_lt (Nat.lt_succ_of_lt this)⟩
  have old : ∀ b o,s₂.heap.get? b = some o → h₁.get? b = some o := fun b o e => hsb₁.extBut b o (lt e).2 (Heap.get?_push_of_some _ (hH2 ▸ Heap.get?_push_of_some _ e))
  have hacc : h₁.PlainList D #[] := ⟨_,hsb₁.extBut _ _ hDC (Heap.get?_push_of_some _ (hH2 ▸ hD' ▸ Heap.get?_push_size _ rfl))⟩
  have newD2 : s₂.heap.get? D = none := hD' ▸ get_none_of_new
  have newC2 : s₂.heap.get? C = none := get_none_of_ge (by rw [hD',hC]; exact Nat.le_succ _)
  have hDf : D ∉ fp := fun q => by obtain ⟨o,e⟩ := hlive0 D q; rw [newD2] at e; cases e
  have hCf : C ∉ fp := fun q => by obtain ⟨o,e⟩ := hlive0 C q; rw [newC2] at e; cases e
  have hDw : D ∉ wr := fun q => hDf (F.sub _ q)
  have hCw : C ∉ wr := fun q => hCf (F.sub _ q)
  let H' : HS := fun b => H b ∨ b ∈ wr ∨ b = D ∨ b = C
  have hH' : ∀ b,H' b → H b ∨ b ∈ wr ∨ s₁.heap.get? b = none := fun b q => by
    rcases q with q | q | q | q
    · exact .inl q
    · exact .inr (.inl q)
    · exact .inr (.inr (q ▸ none_back k₂ newD2))
    · exact .inr (.inr (q ▸ none_back k₂ newC2))
  let cenv := compEnvC scope cl C env
  have hcenv : EnvOk cenv := ⟨K.kind,S.ok.glob,S.ok.blt,K.gen,K.cor⟩
  have hcl : cenv.locals = C := rfl
  have tloc : ∀ x ∈ names,cenv.kindOf x = some .local := fun x hx => lookup_relabel_local (K.tgt x hx)
  obtain ⟨hfl,hff⟩ := frees_some hf
  let Inv : Nat → Shared → Prop := fun n s' => ∃ i rs rest ys m',n = xs.length + 1 - i ∧ i ≤ xs.length ∧ StI i s'.heap ∧ compGo tk f t de (xs.drop i) = some rest ∧ rs ++ rest = out ∧ s'.heap.Ns C m' ∧ s'.heap.PlainList D (List.toArray ys) ∧
    RepL H' s'.heap rs ys ∧ (∃ hh tk,s' = { s₂ with heap := hh,toks := tk }) ∧ ∀ b o,b ∉ wr → s₂.heap.get? b = some o → s'.heap.get? b = some o
  have loop : ∀ s₃ : Shared,s₃ = { s₂ with heap := h₁,toks := s₂.toks + ([] : List (Str × Value)).length } →
      codeAny (model P.prog P.w) A (.compLoop (.ListComp elt [⟨tgt,iter,ifs,0⟩] scope pos) 0 (.ref I) (.ref D) cenv) (compPost (model P.prog P.w) A E use Q (.ref D) C) s₃ := by
    rintro s₃ rfl
    refine codeAny_compLoop_any Inv ?_ (xs.length + 1) ⟨0,[],out,[],_,rfl,Nat.zero_le _,F.frame _ _ _ hst fun b _ o e => old b o e,by simpa using hgo,rfl,hns₁,hacc,RepL.nil,⟨_,_,rfl⟩,fun b o _ e => old b o e⟩
    rintro n s' ⟨i,rs,rest,ys,m',rfl,hi,hsti,hrest,hsplit,hns,hpl,hrep,hsame,hkeep⟩
    have kept1 : ∀ b o,s₁.heap.get? b = some o → b ∉ wr → s'.heap.get? b = some o := fun b o e n => hkeep b o n (keeps_get k₂ b o e)
    have nwr : ∀ b o,s₁.heap.get? b = some o → b ∉ wr := fun b o e q => by rw [hwr b q] at e; cases e
    have fz : Froz H s₁.heap H' s'.heap := fun b o n e => ⟨fun q => (by
      rcases hH' b q with z | z | z
      · exact n z
      · exact nwr b o e z
      · rw [z] at e; cases e),kept1 b o e (nwr b o e)⟩
    by_cases hlt : i < xs.length
    · have hxi : xs[i]? = some xs[i] := List.getElem?_eq_getElem hlt
      refine F.item i H' s' _ _ hlt hsti (F.srcm _ _ _ _ fz hsrc) (fun b hb => .inr (.inl hb)) fun v sv hgo' => ?_
      refine hgo' cenv _ _ _ fun s₄ vals rv hst₄ w₄ => ?_
      have hns₄ : s₄.heap.Ns C m' := hns.at' fun o e => w₄.keep _ o hCw e
      have hvl := rv.length
      have hcv := hcomps i _ hxi
      refine comp_bind (m := m') ht (by rw [hvl,htk _ _ hcv]) tloc K.kind hns₄ fun h₅ tk₅ m₅ hns₅ hbind hsb₅ => ?_
      have hst₅ : StI (i + 1) h₅ := F.frame _ _ _ hst₄ fun b hb o e => (hsb₅.2 b fun q => hCf ((show b = C from q) ▸ hb)).trans e
      have keep₅ : ∀ b o,b ∉ wr → b ≠ C → s'.heap.get? b = some o → h₅.get? b = some o := fun b o n1 n2 e => (hsb₅.2 b n2).trans (w₄.keep b o n1 e)
      have keep₅' : ∀ b o,b ∉ wr → s₂.heap.get? b = some o → h₅.get? b = some o := fun b o n1 e => keep₅ b o n1 (lt e).2 (hkeep b o n1 e)
      have fz45 : Froz H' s₄.heap H' h₅ := fun b o n e => ⟨n,(hsb₅.2 b fun q => n (.inr (.inr (.inr q)))).trans e⟩
      have fz5 : Froz H' s'.heap H' h₅ := fun b o n e => ⟨n,keep₅ b o (fun q => n (.inr (.inl q))) (fun q => n (.inr (.inr (.inr q)))) e⟩
      have hpl₅ : h₅.PlainList D (List.toArray ys) := isList_mono hpl fun o e => keep₅ _ o hDw hDC e
      obtain ⟨h4,tk4,e4⟩ := w₄.same
      obtain ⟨h3,tk3,e3⟩ := hsame
      have same₅ : ({ s₄ with heap := h₅,toks := tk₅ } : Shared) = { s₂ with heap := h₅,toks := tk₅ } := by rw [e4,e3]
      have hb₅ : HB H' h₅ := fun b q => by
        rcases q with q | q | q | q
        · by_cases z : b ∈ wr
          · exact F.live _ _ hst₅ b (F.sub b z)
          · obtain ⟨o,e⟩ := S2.hb b q
            exact ⟨o,keep₅' b o z e⟩
        · exact F.live _ _ hst₅ b (F.sub b q)
        · obtain ⟨n,e⟩ := hpl₅; exact ⟨_,q ▸ e⟩
        · obtain ⟨o,_,_,e,_⟩ := hns₅; exact ⟨o,q ▸ e⟩
      have pg₅ : PG P h₅ := ⟨S.pg.ok,fun b o e => keep₅' b o (nwr b o (keeps_get k₁ b o (S.pg.ext b o e))) (keeps_get (keeps_tr k₁ k₂) b o (S.pg.ext b o e))⟩
      have S5 : St P lev cenv ctx' A H' ((comps i).map .val ++ f) { s₄ with heap := h₅,toks := tk₅ } m₅ cm ad := by
        refine ⟨S.room,pg₅,hb₅,hcenv,⟨hns₅,fun x c' e => ?_,fun j x sl hx hσ => ?_⟩⟩
        · obtain ⟨o,ho,hd⟩ := (S.keeps k₁).vars.cells x c' (K.sub x c' e)
          exact ⟨o,keep₅' _ o (nwr _ _ ho) (keeps_get k₂ _ o ho),hd⟩
        · have hcl5 := htk _ _ hcv
          by_cases hj : j < names.length
          · rw [K.pre j hj] at hx
            rw [List.getElem?_append_left (by simp; lia),List.getElem?_map] at hσ
            cases hz : (comps i)[j]? with
            | none => rw [hz] at hσ; cases hσ
            | some z =>
              rw [hz] at hσ; cases hσ
              obtain ⟨u,hu,ru⟩ := rv.get hz
              have hm := hbind j x u hx hu
              refine ⟨u,?_,rep_froz fz45 _ _ ru⟩
              unfold vl
              rw [if_pos (tloc x (List.mem_of_getElem? hx))]
              exact hm
          · rw [List.getElem?_append_right (by simp; lia)] at hσ
            simp only [List.length_map] at hσ
            have hjf : j - (comps i).length < fr.length := by
              by_cases q : j - (comps i).length < fr.length
              · exact q
              · rw [List.getElem?_eq_none (by lia)] at hσ; cases hσ
            obtain ⟨y,hy,hy',hky,hnl⟩ := K.fre _ _ (List.getElem?_eq_getElem hjf)
            obtain ⟨v',hv',hfv⟩ := hff _ _ (List.getElem?_eq_getElem hjf)
            rw [hσ] at hfv; cases hfv
            have hxy : x = y := by
              rw [show names.length + (j - (comps i).length) = j by lia] at hy'
              rw [hx] at hy'; exact Option.some.inj hy'
            subst hxy
            obtain ⟨u,hu,ru⟩ := (S.keeps k₁).vars.slot _ _ _ hy hv'
            refine ⟨u,?_,rep_froz fz5 _ _ (rep_froz fz _ _ ru)⟩
            unfold vl at hu ⊢
            rw [if_neg (by rw [hky]; decide)] at hu
            rw [if_neg (hnl C)]
            exact hu
      have hd : xs.drop i = xs[i] :: xs.drop (i + 1) := List.drop_eq_getElem_cons hlt
      rw [hd] at hrest
      unfold compGo at hrest
      rw [hcv] at hrest
      dsimp only at hrest
      have step : ∀ (s₆ : Shared) (rs' : List PV) (ys' : List Value) (rest' : List PV),Keeps { s₄ with heap := h₅,toks := tk₅ } s₆ ∨ (∃ k : Keeps { s₄ with heap := h₅,toks := tk₅ } s₆,True) → True := fun _ _ _ _ _ => trivial
      split at hrest
      · cases hrest
      · rename_i htf
        refine ifs_run (hif C) S5 htf fun s₆ k₆ => ?_
        rw [if_neg (by decide)]
        obtain ⟨h6,tk6,e6,g6⟩ := k₆
        refine ⟨xs.length + 1 - (i + 1),by lia,i + 1,rs,rest,ys,m₅,rfl,hlt,?_,hrest,hsplit,?_,?_,?_,?_,?_⟩
        · rw [e6]; exact F.frame _ _ _ hst₅ fun b _ o e => g6 b o e
        · rw [e6]; exact hns₅.keeps g6
        · rw [e6]; exact isList_mono hpl₅ fun o e => g6 _ o e
        · rw [e6]; exact repL_froz (fun b o n e => ⟨n,g6 b o e⟩) _ _ (repL_froz fz5 _ _ hrep)
        · rw [e6,same₅]; exact ⟨h6,tk6,rfl⟩
        · intro b o n1 e; rw [e6]; exact g6 b o (keep₅' b o n1 e)
      · rename_i htt
        refine ifs_run (hif C) S5 htt fun s₆ k₆ => ?_
        rw [if_pos rfl]
        split at hrest
        · cases hrest
        · rename_i y hy
          split at hrest
          · cases hrest
          · rename_i ys2 hrest2
            cases hrest
            refine hel C A H' _ s₆ m₅ cm ad y _ _ (S5.keeps k₆) hy fun vy s₇ k₇ ry => ?_
            have k67 := keeps_tr k₆ k₇
            have hpl₇ : s₇.heap.PlainList D (List.toArray ys) := isList_mono hpl₅ fun o e => keeps_get k67 _ o e
            have hsz : (List.toArray ys).size ≤ sizeLine := by
              have := hrep.length
              have l0 : rs.length ≤ out.length := by rw [← hsplit,List.length_append]; lia
              have l1 := compGo_length hgo
              rw [List.size_toArray,sizeLine_val]; lia
            refine wpAny_list_append_plain hpl₇ (fun h₈ hpl₈ hsb₈ => ?_) hsz
            obtain ⟨h7,tk7,e7,g7⟩ := k67
            have fz8 : Froz H' s₇.heap H' h₈ := fun b o n e => ⟨n,(hsb₈.2 b fun q => n (.inr (.inr (.inl q)))).trans e⟩
            have up : ∀ b o,b ≠ D → h₅.get? b = some o → h₈.get? b = some o := fun b o n e => (hsb₈.2 b n).trans (by rw [e7]; exact g7 b o e)
            refine ⟨xs.length + 1 - (i + 1),by lia,i + 1,rs ++ [y],ys2,ys ++ [vy],m₅,rfl,hlt,?_,hrest2,by rw [← hsplit]; simp,?_,?_,?_,?_,?_⟩
            · exact F.frame _ _ _ hst₅ fun b hb o e => up b o (fun q => hDf (q ▸ hb)) e
            · exact hns₅.at' fun o e => up _ o (Ne.symm hDC) e
            · simpa using hpl₈
            · refine RepL.append (repL_froz fz8 _ _ ?_) (RepL.cons (rep_froz fz8 _ _ ry) RepL.nil)
              rw [e7]
              exact repL_froz (fun b o n e => ⟨n,g7 b o e⟩) _ _ (repL_froz fz5 _ _ hrep)
            · rw [e7,same₅]; exact ⟨h₈,tk7,rfl⟩
            · intro b o n1 e; exact up b o (lt e).1 (keep₅' b o n1 e)
    · have hin : i = xs.length := by lia
      subst hin
      refine F.done s' _ _ hsti fun s₄ w₄ => ?_
      rw [List.drop_length] at hrest
      unfold compGo at hrest
      cases hrest
      rw [List.append_nil] at hsplit
      subst hsplit
      obtain ⟨h4,tk4,e4⟩ := w₄.same
      obtain ⟨h3,tk3,e3⟩ := hsame
      have kk : ∀ b o,s₁.heap.get? b = some o → s₄.heap.get? b = some o := fun b o e => w₄.keep b o (nwr b o e) (kept1 b o e (nwr b o e))
      refine c s₄ D C ys ⟨?_,none_back (keeps_tr k₁ k₂) newD2,none_back (keeps_tr k₁ k₂) newC2,hDC,⟨m',hns.at' fun o e => w₄.keep _ o hCw e⟩,isList_mono hpl fun o e => w₄.keep _ o hDw e,H',?_,fun b q => .inl q,.inr (.inr (.inl rfl)),.inr (.inr (.inr rfl))⟩ ?_
      · obtain ⟨h2,tk2,e2,g2⟩ := k₂
        obtain ⟨h1,tk1,e1,g1⟩ := k₁
        refine ⟨s₄.heap,s₄.toks,by rw [e4,e3,e2,e1],fun b o e => kk b o (by rw [e1]; exact g1 b o e)⟩
      · exact repL_froz (wr_froz w₄ fun b hb => .inr (.inl hb)) _ _ hrep
      · have := compGo_length hgo
        unfold lenMax; lia
  exact codeAny_compStart_list (loop _ rfl) (F.self 0 _ _ _ (F.frame _ _ _ hst fun b _ o e => old b o e) (loop _ rfl))
theorem ev_comp {elt tgt iter : Expr} {ifs : List Expr} {scope : Scope} {cl : List (Str × Addr)} {pos : Pos}
    {names ctx' : List Str} {fr : List Nat} {tk : PV → Option (List PV)} {it : IDen} {t : TDen} {de : Den}
    (K : CompOk env ctx scope cl names fr ctx') (ht : TgtOk tgt names) (hit : ItJ P lev env ctx iter tgt tk it) (htk : ∀ x vs,tk x = some vs → vs.length = names.length)
    (hif : ∀ C,IfsOk P lev (compEnvC scope cl C env) ctx' ifs t) (hel : ∀ C,Ev P lev (compEnvC scope cl C env) ctx' elt de)
    (hs : ∀ x,foldedSetIterable iter env x = pure x) :
    Ev P lev env ctx (.ListComp elt [⟨tgt,iter,ifs,0⟩] scope pos) (comp it tk fr t de) := fun A H σ s m cm ad pv Q E S h c => by
  have hl : ∃ out,pv = .list out := by
    unfold comp at h
    repeat' (split at h)
    all_goals (first | cases h | skip)
    all_goals exact ⟨_,rfl⟩
  obtain ⟨out,rfl⟩ := hl
  rw [eval_ListComp]
  refine comp_core (use := none) S K ht hit htk hif hel hs h fun s' D C ys X hlen => ?_
  obtain ⟨m',hns⟩ := X.ns
  refine ⟨m',hns,fun h' hsb => ?_⟩
  obtain ⟨h1,tk1,rfl,g1⟩ := X.keep
  have k2 : Keeps s { s with heap := h',toks := tk1 } := ⟨h',tk1,rfl,fun b o e => (hsb.2 b fun q => by subst q; rw [X.newC] at e; cases e).trans (g1 b o e)⟩
  refine c _ _ k2 ?_
  obtain ⟨H',hr,hs',hD,hC⟩ := X.rep
  rw [Rep]
  refine ⟨D,ys,rfl,S.hb.fresh X.newD,?_,?_,hlen⟩
  · obtain ⟨n,e⟩ := X.pl
    exact ⟨n,(hsb.2 D X.ne).trans e⟩
  · exact repL_froz (fun b o n e => ⟨fun q => n (hs' b q),(hsb.2 b fun q => n (q ▸ hC)).trans e⟩) _ _ hr
end
end Mine
end
section
open PySem PySem.W PyProof.Rows PySem.Calls
namespace Mine
section
variable {P : Pk} {lev : Nat} {env : Env} {ctx : List Str}
noncomputable def Post (P : Pk) (lev : Nat) (env : Env) (ctx : List Str) (A : Around) (prot H₀ H : HS) (s : Shared) : Out → (Flow → Shared → Prop) → Prop
  | .next σ',Q => ∀ s' H' m' cm' ad',In P lev env ctx A prot H₀ H' σ' s' m' cm' ad' → Froz H s.heap H' s'.heap → Moves prot s s' → Q .next s'
  | .ret v,Q => ∀ s' H' u,Rep H' s'.heap v u → (∀ b,H₀ b → H' b) → Froz H s.heap H' s'.heap → Moves prot s s' → Q (.ret u) s'
noncomputable def ExS (P : Pk) (lev : Nat) (env : Env) (ctx : List Str) (st : Stmt) (d : SDen) : Prop :=
  ∀ (A : Around) (prot H₀ H : HS) (σ : Sl) (s : Shared) (m cm : Str → Option Value) (ad : Nat → Addr) (out : Out) (Q : Flow → Shared → Prop) (E : Value → Shared → Prop),
    In P lev env ctx A prot H₀ H σ s m cm ad → d σ = some out → Post P lev env ctx A prot H₀ H s out Q → wpAny (model P.prog P.w) A (exec st env) Q E s
noncomputable def ExP (P : Pk) (lev : Nat) (env : Env) (ctx : List Str) (ss : List Stmt) (d : SDen) : Prop :=
  ∀ (A : Around) (prot H₀ H : HS) (σ : Sl) (s : Shared) (m cm : Str → Option Value) (ad : Nat → Addr) (out : Out) (Q : Flow → Shared → Prop) (E : Value → Shared → Prop),
    In P lev env ctx A prot H₀ H σ s m cm ad → d σ = some out → Post P lev env ctx A prot H₀ H s out Q → wpAny (model P.prog P.w) A (execs ss env) Q E s
theorem Post.step {A : Around} {prot H₀ H H' : HS} {s s' : Shared} {out : Out} {Q : Flow → Shared → Prop} (p : Post P lev env ctx A prot H₀ H s out Q) (f : Froz H s.heap H' s'.heap) (mv : Moves prot s s') :
    Post P lev env ctx A prot H₀ H' s' out Q := by
  cases out with
  | next σ' => exact fun s'' H'' m' cm' ad' X f' mv' => p s'' H'' m' cm' ad' X (f.trans f') (mv.tr mv')
  | ret v => exact fun s'' H'' u r h f' mv' => p s'' H'' u r h (f.trans f') (mv.tr mv')
theorem ex_nil : ExP P lev env ctx [] sNop := fun A prot H₀ H σ s m cm ad out Q E X h c => by
  unfold sNop at h; cases h
  exact wpAny_execs_nil (c s H m cm ad X (Froz.refl _ _) (moves_refl _ _))
theorem ex_one {st : Stmt} {d : SDen} (h : ExS P lev env ctx st d) : ExP P lev env ctx [st] d := fun A prot H₀ H σ s m cm ad out Q E X e c => by
  refine wpAny_execs_cons (h A prot H₀ H σ s m cm ad out _ E X e ?_)
  cases out with
  | next σ' => exact fun s' H' m' cm' ad' X' f mv => wpAny_execs_nil (c s' H' m' cm' ad' X' f mv)
  | ret v => exact fun s' H' u r h f mv => c s' H' u r h f mv
theorem ex_cons {st : Stmt} {ss : List Stmt} {d d' : SDen} (h : ExS P lev env ctx st d) (hr : ExP P lev env ctx ss d') : ExP P lev env ctx (st :: ss) (sSeq d d') := fun A prot H₀ H σ s m cm ad out Q E X e c => by
  unfold sSeq at e
  split at e
  · cases e
  · rename_i σ' e'
    refine wpAny_execs_cons (h A prot H₀ H σ s m cm ad (.next σ') _ E X e' fun s' H' m' cm' ad' X' f mv => ?_)
    exact hr A prot H₀ H' σ' s' m' cm' ad' out Q E X' e (c.step f mv)
  · rename_i v e'
    cases e
    exact wpAny_execs_cons (h A prot H₀ H σ s m cm ad (.ret v) _ E X e' fun s' H' u r h f mv => c s' H' u r h f mv)
theorem In.frz {A : Around} {prot H₀ H : HS} {σ : Sl} {s : Shared} {m cm : Str → Option Value} {ad : Nat → Addr} {i : Nat} {xs : List PV} (X : In P lev env ctx A prot H₀ H σ s m cm ad) (e : σ[i]? = some (.own xs)) (hl : xs.length ≤ lenMax) :
    In P lev env ctx A prot H₀ (fun b => H b ∧ b ≠ ad i) (σ.set i (.val (.list xs))) s m cm ad ∧ Froz H s.heap (fun b => H b ∧ b ≠ ad i) s.heap := by
  have f : Froz H s.heap (fun b => H b ∧ b ≠ ad i) s.heap := fun b o n e => ⟨fun q => n q.1,e⟩
  have O := X.own i xs e
  have hi : i < σ.length := by
    by_cases q : i < σ.length
    · exact q
    · rw [List.getElem?_eq_none (by lia)] at e; cases e
  have back : ∀ (j : Nat) (ys : List PV),(σ.set i (.val (.list xs)))[j]? = some (.own ys) → j ≠ i ∧ σ[j]? = some (.own ys) := fun j ys ej => by
    by_cases q : j = i
    · subst q; rw [List.getElem?_set_self hi] at ej; cases ej
    · exact ⟨q,by rwa [List.getElem?_set_ne (fun z => q z.symm)] at ej⟩
  refine ⟨⟨⟨X.st.room,X.st.pg,fun b q => X.st.hb b q.1,X.st.ok,⟨X.st.vars.ns,X.st.vars.cells,fun j x sl hj hσ => ?_⟩⟩,X.pl,fun b q => ⟨X.sub b q,fun z => O.2.1 (z ▸ q)⟩,X.pgp,⟨⟨X.loc.1,fun z => O.2.2.1 z.symm⟩,X.loc.2⟩,
    fun x c ec => ⟨⟨(X.cel x c ec).1,fun z => O.2.2.2 x c ec z.symm⟩,(X.cel x c ec).2⟩,X.inj,fun j ys ej => X.own j ys (back j ys ej).2,fun j k ys zs ej ek n => X.apart j k ys zs (back j ys ej).2 (back k zs ek).2 n,X.nd,by rw [List.length_set]; exact X.sz⟩,f⟩
  by_cases q : j = i
  · subst q
    rw [List.getElem?_set_self hi] at hσ
    cases hσ
    obtain ⟨ev,hH,vs,p,r⟩ := X.st.vars.slot j x _ hj e
    refine ⟨_,ev,?_⟩
    rw [Rep]
    exact ⟨_,vs,rfl,fun z => z.2 rfl,p,repL_froz f _ _ r,hl⟩
  · rw [List.getElem?_set_ne (fun z => q z.symm)] at hσ
    have := X.st.vars.slot j x sl hj hσ
    cases sl with
    | unset => trivial
    | val w => obtain ⟨u,e,r⟩ := this; exact ⟨u,e,rep_froz f _ _ r⟩
    | own ys => obtain ⟨e',h',vs,p,r⟩ := this; exact ⟨e',⟨h',X.apart j i ys xs hσ e q⟩,vs,p,repL_froz f _ _ r⟩
theorem ex_frz {i : Nat} {ss : List Stmt} {d : SDen} (h : ExP P lev env ctx ss d) : ExP P lev env ctx ss (sSeq (sFrz i) d) := fun A prot H₀ H σ s m cm ad out Q E X e c => by
  unfold sSeq at e
  split at e
  · cases e
  · rename_i σ' e'
    unfold sFrz at e'
    split at e'
    · rename_i xs hx
      split at e'
      · rename_i hl
        cases e'
        obtain ⟨X',f⟩ := X.frz hx hl
        exact h A prot H₀ _ _ s m cm ad out Q E X' e (c.step f (moves_refl _ _))
      · cases e'
    · cases e'
  · rename_i v e'
    exfalso
    unfold sFrz at e'
    repeat' (split at e')
    all_goals cases e'
theorem slot_val_in {prot H₀ H : HS} {env : Env} {h : Heap} {v : Value} {a : Addr} {x : PV} (r : Rep H h x v) : SlotIn prot H₀ H env h v a (.val x) := r
theorem lt_of_get {σ : Sl} {i : Nat} {sl : Slot} (e : σ[i]? = some sl) : i < σ.length := by
  by_cases q : i < σ.length
  · exact q
  · rw [List.getElem?_eq_none (by lia)] at e; cases e
theorem store_val {A : Around} {prot H₀ H : HS} {σ : Sl} {s : Shared} {m cm : Str → Option Value} {ad : Nat → Addr} {i : Nat} {x : Str} {v : Value} {pv : PV} {Q : Unit → Shared → Prop} {E : Value → Shared → Prop}
    (X : In P lev env ctx A prot H₀ H σ s m cm ad) (hi : ctx[i]? = some x) (hx : NameAt env x) (r : Rep H s.heap pv v)
    (h : ∀ s' m' cm',In P lev env ctx A prot H₀ H (σ.set i (.val pv)) s' m' cm' (fun j => if j = i then 0 else ad j) → Froz H s.heap H s'.heap → Moves prot s s' → Q () s') :
    wpAny (model P.prog P.w) A (storeName env x v) Q E s :=
  store_slot (a := 0) (sl := .val pv) X hi hx r (fun _ _ _ e => nomatch e) fun s' m' cm' X' f mv _ => h s' m' cm' X' f mv
theorem ex_asg {i : Nat} {x : Str} {xp pos : Pos} {e : Expr} {d : Den} (hi : ctx[i]? = some x) (hx : NameAt env x) (he : Ev P lev env ctx e d) (hs : swapsWith e (some (.Name x xp)) pos.line env = pure false) :
    ExS P lev env ctx (.Assign [.Name x xp] e pos) (sAsg i d) := fun A prot H₀ H σ s m cm ad out Q E X h c => by
  unfold sAsg at h
  split at h
  · cases h
  · rename_i v hv
    cases h
    refine wpAny_Assign_Name (he A H σ s m cm ad v _ E X.st hv fun u s₁ k₁ r => ?_) hs
    exact store_val (X.keeps k₁) hi hx r fun s' m' cm' X' f mv => c s' H m' cm' _ X' ((keeps_froz k₁).trans f) ((keeps_moves k₁).tr mv)
theorem ex_ret {e : Expr} {pos : Pos} {d : Den} (he : Ev P lev env ctx e d) : ExS P lev env ctx (.Return (some e) pos) (sRet d) := fun A prot H₀ H σ s m cm ad out Q E X h c => by
  unfold sRet at h
  split at h
  · cases h
  · rename_i v hv
    cases h
    exact wpAny_Return_some (he A H σ s m cm ad v _ E X.st hv fun u s₁ k₁ r => c s₁ H u r X.sub (keeps_froz k₁) (keeps_moves k₁))
theorem ex_drop {e : Expr} {pos : Pos} {d : Den} (he : Ev P lev env ctx e d) (hi : interactive env = false) (hs : swapsWith e none pos.line env = pure false) : ExS P lev env ctx (.Expr e pos) (sDrop d) := fun A prot H₀ H σ s m cm ad out Q E X h c => by
  unfold sDrop at h
  split at h
  · cases h
  · rename_i v hv
    cases h
    exact wpAny_Expr_any (he A H σ s m cm ad v _ E X.st hv fun u s₁ k₁ r => c s₁ H m cm ad (X.keeps k₁) (keeps_froz k₁) (keeps_moves k₁)) hi hs
theorem ex_fail {st : Stmt} : ExS P lev env ctx st sFail := fun A prot H₀ H σ s m cm ad out Q E X h c => by
  unfold sFail at h; cases h
theorem ex_if {t : Expr} {a b : List Stmt} {pos : Pos} {dt : TDen} {da db : SDen} (ht : Ts P lev env ctx t dt) (ha : ExP P lev env ctx a da) (hb : ExP P lev env ctx b db) :
    ExS P lev env ctx (.If t a b pos) (sIf dt da db) := fun A prot H₀ H σ s m cm ad out Q E X h c => by
  unfold sIf at h
  split at h
  · cases h
  · rename_i e
    refine wpAny_If (ht A H σ s m cm ad true _ E X.st e fun s₁ k₁ => ?_)
    rw [if_pos rfl]
    exact ha A prot H₀ H σ s₁ m cm ad out Q E (X.keeps k₁) h (c.step (keeps_froz k₁) (keeps_moves k₁))
  · rename_i e
    refine wpAny_If (ht A H σ s m cm ad false _ E X.st e fun s₁ k₁ => ?_)
    rw [if_neg (by decide)]
    exact hb A prot H₀ H σ s₁ m cm ad out Q E (X.keeps k₁) h (c.step (keeps_froz k₁) (keeps_moves k₁))
theorem ex_while {t : Expr} {b : List Stmt} {pos : Pos} {fuel : Sl → Nat} {dt : TDen} {db : SDen} (ht : Ts P lev env ctx t dt) (hb : ExP P lev env ctx b db) :
    ExS P lev env ctx (.While t b [] pos) (sWhile fuel dt db) := fun A prot H₀ H σ s m cm ad out Q E X h c => by
  unfold sWhile at h
  refine wpAny_While (codeAny_whileLoop (fun n s' => ∃ σ' H' m' cm' ad',In P lev env ctx A prot H₀ H' σ' s' m' cm' ad' ∧ whileN dt db n σ' = some out ∧ Froz H s.heap H' s'.heap ∧ Moves prot s s') ?_ (fuel σ) ⟨σ,H,m,cm,ad,X,h,Froz.refl _ _,moves_refl _ _⟩)
  rintro n s' ⟨σ',H',m',cm',ad',X',hw,f,mv⟩
  match n with
  | 0 => unfold whileN at hw; cases hw
  | n + 1 =>
    unfold whileN at hw
    split at hw
    · cases hw
    · rename_i e
      cases hw
      refine ht A H' σ' s' m' cm' ad' false _ _ X'.st e fun s₁ k₁ => ?_
      rw [if_neg (by decide)]
      exact wpAny_execs_nil (c s₁ H' m' cm' ad' (X'.keeps k₁) (f.trans (keeps_froz k₁)) (mv.tr (keeps_moves k₁)))
    · rename_i e
      refine ht A H' σ' s' m' cm' ad' true _ _ X'.st e fun s₁ k₁ => ?_
      rw [if_pos rfl]
      split at hw
      · cases hw
      · rename_i v e'
        cases hw
        refine hb A prot H₀ H' σ' s₁ m' cm' ad' (.ret v) _ _ (X'.keeps k₁) e' fun s₂ H₂ u r h2 f2 mv2 => ?_
        exact c s₂ H₂ u r h2 (f.trans ((keeps_froz k₁).trans f2)) (mv.tr ((keeps_moves k₁).tr mv2))
      · rename_i σ'' e'
        refine hb A prot H₀ H' σ' s₁ m' cm' ad' (.next σ'') _ _ (X'.keeps k₁) e' fun s₂ H₂ m₂ cm₂ ad₂ X₂ f2 mv2 => ?_
        exact ⟨n,Nat.lt_succ_self _,σ'',H₂,m₂,cm₂,ad₂,X₂,hw,f.trans ((keeps_froz k₁).trans f2),mv.tr ((keeps_moves k₁).tr mv2)⟩
end
end Mine
end
section
open PySem PySem.W PyProof.Rows PySem.Calls
namespace Mine
section
variable {P : Pk} {lev : Nat} {env : Env} {ctx : List Str}
theorem In.drop {A : Around} {prot H₀ H : HS} {σ : Sl} {s : Shared} {m cm : Str → Option Value} {ad : Nat → Addr} {C : Addr} {h' : Heap} (X : In P lev env ctx A prot H₀ (fun b => H b ∨ b = C) σ s m cm ad)
    (hs : Heap.SameBut C s.heap h') (hH : ¬ H C) (hp : ¬ prot C) (h0 : ∀ b,H₀ b → H b) (hL : H env.locals) (hc : ∀ x c,env.cells.lookup x = some c → H c) (ho : ∀ j xs,σ[j]? = some (.own xs) → H (ad j)) :
    In P lev env ctx A prot H₀ H σ { s with heap := h' } m cm ad ∧ Froz (fun b => H b ∨ b = C) s.heap H h' ∧ Moves prot s { s with heap := h' } := by
  have ne : ∀ b,H b → b ≠ C := fun b q z => hH (z ▸ q)
  have f : Froz (fun b => H b ∨ b = C) s.heap H h' := fun b o n e => ⟨fun q => n (.inl q),(hs.2 b fun q => n (.inr q)).trans e⟩
  have nep : ∀ b,prot b → b ≠ C := fun b q z => hp (z ▸ q)
  refine ⟨⟨⟨X.st.room,⟨X.st.pg.ok,fun b o e => (hs.2 b (nep b (X.pgp b o e))).trans (X.st.pg.ext b o e)⟩,fun b q => ?_,X.st.ok,⟨X.st.vars.ns.sameBut hs (ne _ hL),fun x c e => (X.st.vars.cells x c e).sameBut hs (ne _ (hc x c e)),fun j x sl hj hσ => ?_⟩⟩,
    fun b q => ?_,h0,X.pgp,⟨hL,X.loc.2⟩,fun x c e => ⟨hc x c e,(X.cel x c e).2⟩,X.inj,X.own,X.apart,X.nd,X.sz⟩,f,⟨⟨h',s.toks,rfl⟩,fun b o q e => (hs.2 b (nep b q)).trans e⟩⟩
  · obtain ⟨o,e⟩ := X.st.hb b (.inl q); exact ⟨o,(hs.2 b (ne b q)).trans e⟩
  · have := X.st.vars.slot j x sl hj hσ
    cases sl with
    | unset => trivial
    | val w => obtain ⟨u,e,r⟩ := this; exact ⟨u,e,rep_froz f _ _ r⟩
    | own ys => obtain ⟨e',_,vs,p,r⟩ := this; exact ⟨e',ho j ys hσ,vs,isList_mono p fun o e => (hs.2 _ (ne _ (ho j ys hσ))).trans e,repL_froz f _ _ r⟩
  · obtain ⟨o,e⟩ := X.pl b q; exact ⟨o,(hs.2 b (nep b q)).trans e⟩
theorem own_H {A : Around} {prot H₀ H : HS} {σ : Sl} {s : Shared} {m cm : Str → Option Value} {ad : Nat → Addr} (X : In P lev env ctx A prot H₀ H σ s m cm ad) {j : Nat} {xs : List PV} (e : σ[j]? = some (.own xs)) : H (ad j) := by
  have hj := lt_of_get e
  rw [X.sz] at hj
  exact (X.st.vars.slot j _ _ (List.getElem?_eq_getElem hj) e).2.1
theorem ex_asg_comp {i : Nat} {y : Str} {yp spos : Pos} {elt tgt iter : Expr} {ifs : List Expr} {scope : Scope} {cl : List (Str × Addr)} {pos : Pos}
    {names ctx' : List Str} {fr : List Nat} {tk : PV → Option (List PV)} {it : IDen} {t : TDen} {de : Den} (hi : ctx[i]? = some y) (hy : NameAt env y)
    (K : CompOk env ctx scope cl names fr ctx') (ht : TgtOk tgt names) (hit : ItJ P lev env ctx iter tgt tk it) (htk : ∀ x vs,tk x = some vs → vs.length = names.length)
    (hif : ∀ C,IfsOk P lev (compEnvC scope cl C env) ctx' ifs t) (hel : ∀ C,Ev P lev (compEnvC scope cl C env) ctx' elt de)
    (hs : ∀ x,foldedSetIterable iter env x = pure x) (hsw : swapsWith (.ListComp elt [⟨tgt,iter,ifs,0⟩] scope pos) (some (.Name y yp)) spos.line env = pure true) :
    ExS P lev env ctx (.Assign [.Name y yp] (.ListComp elt [⟨tgt,iter,ifs,0⟩] scope pos) spos) (sAsg i (comp it tk fr t de)) := fun A prot H₀ H σ s m cm ad out Q E X h c => by
  unfold sAsg at h
  split at h
  · cases h
  rename_i v hv
  cases h
  have hl : ∃ out,v = .list out := by
    unfold comp at hv
    repeat' (split at hv)
    all_goals (first | cases hv | skip)
    all_goals exact ⟨_,rfl⟩
  obtain ⟨out,rfl⟩ := hl
  rw [exec_Assign_Name_used _ _ _ _ hsw]
  refine wpAny_bind (wpAny_standAt (wpAny_bind ?_))
  show wpAny _ A (do let _ ← comprehension (.ListComp elt [⟨tgt,iter,ifs,0⟩] scope pos) scope env _ (newList []) false (eval iter env) (some (assign (.Name y yp) env))) _ _ s
  refine wpAny_bind (wpAny_mono (comp_core (use := some (assign (.Name y yp) env)) (Q := fun _ s' => Q .next s') X.st K ht hit htk hif hel hs hv fun s' D C ys W hlen => ?_) (fun _ s' hq => wpAny_pure (wpAny_pure hq)) fun _ _ e => e)
  obtain ⟨m',hns⟩ := W.ns
  have hHC : ¬ H C := X.st.hb.fresh W.newC
  have hpC : ¬ prot C := fun q => by obtain ⟨o,e⟩ := X.pl C q; rw [W.newC] at e; cases e
  obtain ⟨X1,f1⟩ := X.hide (H' := fun b => H b ∨ b = C) W.keep (fun b q => .inl q) (fun b q => by
    rcases q with q | q
    · exact (X.st.hb.keeps (keeps_get W.keep)) b q
    · obtain ⟨o,_,_,e,_⟩ := hns; exact ⟨o,q ▸ e⟩) (fun b q => q.imp_right fun (z : b = C) => by rw [z]; exact W.newC)
  have hr : Rep (fun b => H b ∨ b = C) s'.heap (.list out) (.ref D) := by
    obtain ⟨H',hr,hs',hD,hC⟩ := W.rep
    rw [Rep]
    refine ⟨D,ys,rfl,fun q => q.elim (X.st.hb.fresh W.newD) W.ne,W.pl,repL_froz (fun b o n e => ⟨fun q => n (q.elim (hs' b) fun z => z ▸ hC),e⟩) _ _ hr,hlen⟩
  show wpAny _ A (assign (.Name y yp) env (.ref D)) _ _ _
  refine wpAny_assign_Name (store_slot (a := 0) (sl := .val (.list out)) X1 hi hy hr (fun _ _ _ e => nomatch e) fun s'' m'' cm'' X2 f2 mv2 hsame => ?_)
  have hCL : C ≠ env.locals := fun q => hHC (q ▸ X.loc.1)
  have hCc : ∀ y c,env.cells.lookup y = some c → C ≠ c := fun y c e q => hHC (q ▸ (X.cel y c e).1)
  refine ⟨m',hns.at' fun o e => (hsame C hCL hCc).trans e,fun h' hsb => ?_⟩
  obtain ⟨X3,f3,mv3⟩ := X2.drop hsb hHC hpC X.sub X.loc.1 (fun x c e => (X.cel x c e).1) (fun j xs e => by
    have hj : j ≠ i := fun q => by
      subst q
      have := lt_of_get e
      rw [List.length_set] at this
      rw [List.getElem?_set_self this] at e; cases e
    show H (if j = i then 0 else ad j)
    rw [if_neg hj]
    rw [List.getElem?_set_ne (Ne.symm hj)] at e
    exact own_H X e)
  exact c _ H _ _ _ X3 (f1.trans (f2.trans f3)) ((keeps_moves W.keep).tr (mv2.tr mv3))
noncomputable def EvF (P : Pk) (lev : Nat) (env : Env) (ctx : List Str) (e : Expr) (d : Den) : Prop :=
  ∀ (A : Around) (H : HS) (σ : Sl) (s : Shared) (m cm : Str → Option Value) (ad : Nat → Addr) (xs : List PV) (Q : Value → Shared → Prop) (E : Value → Shared → Prop),
    St P lev env ctx A H σ s m cm ad → d σ = some (.list xs) → (∀ a vs s',Keeps s s' → s.heap.get? a = none → s'.heap.PlainList a (List.toArray vs) → RepL (fun b => H b ∨ b = a) s'.heap xs vs → Q (.ref a) s') →
    wpAny (model P.prog P.w) A (eval e env) Q E s
theorem rep_hide {H : HS} {s s' : Shared} {a : Addr} {xs : List PV} {vs : List Value} (k : Keeps s s') (hn : s.heap.get? a = none) (r : RepL H s.heap xs vs) : RepL (fun b => H b ∨ b = a) s'.heap xs vs :=
  repL_froz (fun b o n e => ⟨fun q => q.elim n fun z => (by rw [z] at e; rw [hn] at e; cases e),keeps_get k b o e⟩) _ _ r
theorem evf_list {es : List Expr} {pos : Pos} {ds : List Den} (h : EvL P lev env ctx es ds) (hn : ds.length ≤ 1000) : EvF P lev env ctx (.List es pos) (lst ds) := fun A H σ s m cm ad ys Q E S e c => by
  unfold lst at e
  split at e
  · cases e
  · rename_i xs hx
    cases e
    have hl := evs_length hx
    refine wpAny_List (h A H σ s m cm ad ys pos _ E S hx fun vs s₁ k₁ rs => ?_)
    have hv := rs.length
    exact ⟨by rw [sizeLine_val]; lia,c _ vs _ (keeps_tr k₁ (keeps_push _ _)) (none_back k₁ get_none_of_new) ⟨0,Heap.get?_push_size _ rfl⟩ (rep_hide (keeps_push _ _) get_none_of_new rs)⟩
theorem evf_copy {f : Str} {p : Pos} {e : Expr} {pos : Pos} {d : Den} (N : BiName P env f (.type "list")) (ha : Ev P lev env ctx e d)
    (hs : starEach [e] env = (false,eval e env) :: starEach [] env) : EvF P lev env ctx (.Call (.Name f p) [e] [] pos) (una listV d) := fun A H σ s m cm ad ys Q E S h c => by
  unfold una at h
  split at h
  · cases h
  · rename_i x hx
    unfold listV at h
    split at h
    · cases h
      rw [eval_call_name]
      refine wpAny_bind (name_builtin S N.k N.miss N.boot N.nn N.nd ?_)
      refine PySem.callWith_type (backTo_plain _ (by rw [hs]; rfl)) (wp_args hs ?_)
      refine wpAny_items_cons (ha A H σ s m cm ad _ _ E S hx fun v s₁ k₁ r => wpAny_items_nil ?_) hs
      obtain ⟨la,vs,rfl,na,pa,qa,sa⟩ := r.list_inv
      have z := qa.size sa
      obtain ⟨n,ho⟩ := pa
      refine call_list_seq la (.inl rfl) ho rfl rfl (fun h' c' hk hn => ?_) (by rw [sizeLine_val]; lia)
      have k : Keeps s₁ { s₁ with heap := h' } := ⟨h',s₁.toks,rfl,hk⟩
      exact c _ vs _ (keeps_tr k₁ k) (none_back k₁ get_none_of_new) ⟨c',hn⟩ (rep_hide k get_none_of_new qa)
    · cases h
theorem evf_rep {l r : Expr} {pos : Pos} {dl dr : Den} (hl : Ev P lev env ctx l dl) (hr : Ev P lev env ctx r dr) :
    EvF P lev env ctx (.BinOp l .Mult r pos) (bin mulV dl dr) := fun A H σ s m cm ad ys Q E S h c => by
  unfold bin at h
  split at h
  · cases h
  · rename_i x hx
    split at h
    · cases h
    · rename_i y hy
      refine wpAny_BinOp (hl A H σ s m cm ad x _ E S hx fun va s₁ k₁ ra => ?_)
      refine hr A H σ s₁ m cm ad y _ E (S.keeps k₁) hy fun vb s₂ k₂ rb => ?_
      have ra2 := ra.keeps k₂
      unfold mulV at h
      split at h
      · split at h <;> cases h
      · rename_i z k
        split at h
        · rename_i hk
          cases h
          obtain ⟨la,vs,rfl,na,pa,qa,sa⟩ := ra2.list_inv
          obtain ⟨u,rfl⟩ := rb.int_inv
          obtain ⟨v,t,rfl,qv,qt⟩ := qa.inv
          have := qt.inv_nil; subst this
          obtain ⟨n,ho⟩ := pa
          have hk' : k.natAbs ≤ 1000000 := hk
          have hs1 : ([v].toArray).size = 1 := rfl
          refine wpAny_binaryOp_repeat_ref (T := "list") (U := "int") (by decide) ⟨_,ho,rfl⟩ (fun s' => typeIs_int s' k u) noFill_list_mul F.fills_int_mul F.slot_int_rmul repeat_list F.slot_int_index.lookup
            (call_meets F.slot_int_rmul (typeIs_int s₂ k u) F.entry_int_rmul (F.args_int_rmul_2 _ _) (int___rmul___int_list k u la [v].toArray n)
              ⟨ho,rfl,⟨_,ho,rfl⟩,call_meets F.slot_list_mul ⟨_,ho,rfl⟩ F.entry_list_mul (F.args_list_mul_2 _ _)
                (AutoListH.list___mul___list_int_3 la [v].toArray n k u (by simp [Builtin.List.listFitsIndex]; lia) (by rw [hs1]; lia) (by simp only [Builtin.List.listTooLong,sizeLine_val,hs1]; rw [decide_eq_true_eq]; lia))
                ⟨ho,?_⟩⟩)
          have : List.foldl (fun x1 x2 => x1 ++ x2) #[] (List.replicate (if ([v].toArray).isEmpty = true then 0 else k.toNat) [v].toArray) = (List.replicate k.toNat v).toArray := by
            rw [if_neg (by simp)]
            show List.foldl (fun x1 x2 => x1 ++ x2) #[] (List.replicate k.toNat #[v]) = _
            rw [foldl_rep]; simp
          have k12 := keeps_tr k₁ k₂
          refine c _ (List.replicate k.toNat v) _ (keeps_tr k12 (keeps_push _ _)) (none_back k12 get_none_of_new) ⟨0,?_⟩ (rep_hide (keeps_push _ _) get_none_of_new (RepL.replicate qv _))
          rw [this]; exact Heap.get?_push_size _ rfl
        · cases h
      · cases h
theorem store_own {A : Around} {prot H₀ H : HS} {σ : Sl} {s s₁ : Shared} {m cm : Str → Option Value} {ad : Nat → Addr} {i : Nat} {x : Str} {a : Addr} {xs : List PV} {vs : List Value} {Q : Unit → Shared → Prop} {E : Value → Shared → Prop}
    (X : In P lev env ctx A prot H₀ H σ s m cm ad) (X₁ : In P lev env ctx A prot H₀ (fun b => H b ∨ b = a) σ s₁ m cm ad) (hi : ctx[i]? = some x) (hx : NameAt env x) (ha : s.heap.get? a = none) (p : s₁.heap.PlainList a (List.toArray vs)) (r : RepL (fun b => H b ∨ b = a) s₁.heap xs vs)
    (h : ∀ s' m' cm',In P lev env ctx A prot H₀ (fun b => H b ∨ b = a) (σ.set i (.own xs)) s' m' cm' (fun j => if j = i then a else ad j) → Froz (fun b => H b ∨ b = a) s₁.heap (fun b => H b ∨ b = a) s'.heap → Moves prot s₁ s' → Q () s') :
    wpAny (model P.prog P.w) A (storeName env x (.ref a)) Q E s₁ := by
  have nH : ¬ H a := X.st.hb.fresh ha
  have np : ¬ prot a := fun q => by obtain ⟨o,e⟩ := X.pl a q; rw [ha] at e; cases e
  refine store_slot (a := a) (sl := .own xs) X₁ hi hx ⟨rfl,.inr rfl,⟨vs,p,r⟩,np,fun q => nH (X.sub a q),fun q => nH (q ▸ X.loc.1),fun y c e q => nH (q ▸ (X.cel y c e).1)⟩ (fun j ys zs _ _ e q => nH (q ▸ own_H X e)) fun s' m' cm' X' f mv _ => h s' m' cm' X' f mv
theorem In.hide1 {A : Around} {prot H₀ H : HS} {σ : Sl} {s s₁ : Shared} {m cm : Str → Option Value} {ad : Nat → Addr} {a : Addr} {vs : Array Value} (X : In P lev env ctx A prot H₀ H σ s m cm ad) (k : Keeps s s₁) (ha : s.heap.get? a = none) (p : s₁.heap.PlainList a vs) :
    In P lev env ctx A prot H₀ (fun b => H b ∨ b = a) σ s₁ m cm ad ∧ Froz H s.heap (fun b => H b ∨ b = a) s₁.heap :=
  X.hide k (fun b q => .inl q) (fun b q => by
    rcases q with q | q
    · exact (X.st.hb.keeps (keeps_get k)) b q
    · obtain ⟨n,e⟩ := p; exact ⟨_,q ▸ e⟩) fun b q => q.imp_right fun (z : b = a) => by rw [z]; exact ha
theorem ex_own {i : Nat} {x : Str} {xp pos : Pos} {e : Expr} {d : Den} (hi : ctx[i]? = some x) (hx : NameAt env x) (he : EvF P lev env ctx e d) (hs : swapsWith e (some (.Name x xp)) pos.line env = pure false) :
    ExS P lev env ctx (.Assign [.Name x xp] e pos) (sOwn i d) := fun A prot H₀ H σ s m cm ad out Q E X h c => by
  unfold sOwn at h
  split at h
  · rename_i xs hv
    cases h
    refine wpAny_Assign_Name (he A H σ s m cm ad xs _ E X.st hv fun a vs s₁ k₁ ha p r => ?_) hs
    obtain ⟨X₁,f₁⟩ := X.hide1 k₁ ha p
    exact store_own X X₁ hi hx ha p r fun s' m' cm' X' f mv => c s' _ m' cm' _ X' (f₁.trans f) ((keeps_moves k₁).tr mv)
  · cases h
noncomputable def elts (xs : List (Str × Pos)) : List Expr := xs.map fun x => .Name x.1 x.2
theorem store_names {A : Around} {E : Value → Shared → Prop} {Q : Unit → Shared → Prop} : ∀ (is : List Nat) (xs : List (Str × Pos)) (pvs : List PV) (vals : List Value) (prot H₀ H : HS) (σ σ' : Sl) (s : Shared) (m cm : Str → Option Value) (ad : Nat → Addr),
    In P lev env ctx A prot H₀ H σ s m cm ad → is.length = xs.length → (∀ (j i : Nat) (x : Str × Pos),is[j]? = some i → xs[j]? = some x → ctx[i]? = some x.1 ∧ NameAt env x.1) → RepL H s.heap pvs vals → setMany (is.map (·,false)) pvs σ = some σ' →
    (∀ s' m' cm' ad',In P lev env ctx A prot H₀ H σ' s' m' cm' ad' → Froz H s.heap H s'.heap → Moves prot s s' → Q () s') →
    wpAny (model P.prog P.w) A (assignInOrder ((assignEach (elts xs) env).map (·.2)) vals) Q E s
  | [],[],pvs,vals,prot,H₀,H,σ,σ',s,m,cm,ad,X,_,_,r,h,c => by
    cases pvs with
    | nil =>
      have := r.inv_nil; subst this
      simp only [List.map_nil,sM0] at h
      cases h
      unfold elts
      show wpAny _ _ (pure ()) _ _ _
      exact wpAny_pure (c s m cm ad X (Froz.refl _ _) (moves_refl _ _))
    | cons p ps => simp [sM3,sM4] at h
  | [],x :: xs,pvs,vals,prot,H₀,H,σ,σ',s,m,cm,ad,X,hl,_,r,h,c => by simp at hl
  | i :: is,[],pvs,vals,prot,H₀,H,σ,σ',s,m,cm,ad,X,hl,_,r,h,c => by simp at hl
  | i :: is,x :: xs,pvs,vals,prot,H₀,H,σ,σ',s,m,cm,ad,X,hl,hn,r,h,c => by
    cases pvs with
    | nil => simp [sM3,sM4] at h
    | cons p ps =>
      obtain ⟨v,t,rfl,rv,rt⟩ := r.inv
      simp only [List.map_cons,sM1] at h
      obtain ⟨h1,h2⟩ := hn 0 i x rfl rfl
      show wpAny _ _ (do holding t (assign (.Name x.1 x.2) env v); assignInOrder ((assignEach (elts xs) env).map (·.2)) t) _ _ _
      refine wpAny_bind (wpAny_holding (wpAny_assign_Name (store_val X h1 h2 rv fun s' m' cm' X' f mv => ?_)))
      exact store_names is xs ps t prot H₀ H _ σ' s' m' cm' _ X' (by simpa using hl) (fun j k y a b => hn (j + 1) k y (by simpa using a) (by simpa using b)) (repL_froz f _ _ rt) h fun s'' m'' cm'' ad'' X'' f' mv' => c s'' m'' cm'' ad'' X'' (f.trans f') (mv.tr mv')
theorem elts_plain (xs : List (Str × Pos)) (env : Env) : (assignEach (elts xs) env).length = xs.length ∧ (assignEach (elts xs) env).all (fun x => !x.1) = true := by
  induction xs with
  | nil => exact ⟨rfl,rfl⟩
  | cons x r ih =>
    have e : assignEach (elts (x :: r)) env = (false,assign (.Name x.1 x.2) env) :: assignEach (elts r) env := rfl
    rw [e]
    exact ⟨by simp [ih.1],by simpa using ih.2⟩
theorem setMany_length : ∀ {is : List Nat} {pvs : List PV} {σ σ' : Sl},setMany (is.map (·,false)) pvs σ = some σ' → pvs.length = is.length
  | [],[],_,_,_ => rfl
  | [],p :: ps,_,_,h => by simp [sM3,sM4] at h
  | i :: is,[],_,_,h => by simp [sM3,sM4] at h
  | i :: is,p :: ps,σ,σ',h => by
    simp only [List.map_cons,sM1] at h
    simp [setMany_length h]
theorem ex_unp {is : List Nat} {xs : List (Str × Pos)} {k : Nat} {tp pos : Pos} {e : Expr} {d : Den} (he : Ev P lev env ctx e d) (hl : is.length = xs.length) (hn : ∀ (j i : Nat) (x : Str × Pos),is[j]? = some i → xs[j]? = some x → ctx[i]? = some x.1 ∧ NameAt env x.1)
    (hs : swapsWithSole [.Tuple (elts xs) k tp] e pos.line env = pure false) (hw : swappedStores [.Tuple (elts xs) k tp] e env = pure none) :
    ExS P lev env ctx (.Assign [.Tuple (elts xs) k tp] e pos) (sUnp (is.map (·,false)) d) := fun A prot H₀ H σ s m cm ad out Q E X h c => by
  unfold sUnp at h
  split at h
  · rename_i vs hv
    split at h
    · cases h
    · rename_i σ' hσ
      cases h
      refine Assign_Tuple (he A H σ s m cm ad _ _ E X.st hv fun v s₁ k₁ r => ?_) hs hw
      obtain ⟨T,us,rfl,nT,tT,qT,_⟩ := r.tup_inv
      have hp := elts_plain xs env
      refine assign_pair X.st.room.handled (by rw [hp.1,qT.length,setMany_length hσ,hl]) hp.2 tT fun s₂ k₂ => ?_
      have k12 := keeps_tr k₁ k₂
      exact store_names is xs vs us prot H₀ H σ σ' s₂ m cm ad (X.keeps k12) hl hn (qT.keeps k₂) hσ fun s' m' cm' ad' X' f mv => c s' H m' cm' ad' X' ((keeps_froz k12).trans f) ((keeps_moves k12).tr mv)
  · cases h
theorem ex_tupN {is : List Nat} {xs : List (Str × Pos)} {k k' : Nat} {tp vp pos : Pos} {es : List Expr} {ds : List Den} (he : EvL P lev env ctx es ds) (hl : is.length = xs.length) (hd : ds.length ≤ 1000) (hn : ∀ (j i : Nat) (x : Str × Pos),is[j]? = some i → xs[j]? = some x → ctx[i]? = some x.1 ∧ NameAt env x.1)
    (hs : swapsWithSole [.Tuple (elts xs) k tp] (.Tuple es k' vp) pos.line env = pure false) (hw : swappedStores [.Tuple (elts xs) k tp] (.Tuple es k' vp) env = pure none) :
    ExS P lev env ctx (.Assign [.Tuple (elts xs) k tp] (.Tuple es k' vp) pos) (sTup (is.map (·,false)) ds) := fun A prot H₀ H σ s m cm ad out Q E X h c => by
  refine ex_unp (ev_tuple he hd) hl hn hs hw A prot H₀ H σ s m cm ad out Q E X ?_ c
  unfold sTup at h
  unfold sUnp tpl
  split at h
  · cases h
  · rename_i vs hv
    exact h
end
end Mine
end
section
open PySem PySem.W PyProof.Rows PySem.Calls
namespace Mine
structure Sto where
  i : Nat
  x : Str
  sl : Slot
  v : Value
  a : Addr
noncomputable def isOwn : Slot → Prop
  | .own _ => True
  | _ => False
noncomputable def One : List Sto → Prop
  | [] => True
  | e :: r => (isOwn e.sl → ∀ f ∈ r,¬ isOwn f.sl) ∧ One r
section
variable {P : Pk} {lev : Nat} {env : Env} {ctx : List Str}
theorem SlotIn.froz {prot H₀ H : HS} {s s' : Shared} {v : Value} {a : Addr} {sl : Slot} (r : SlotIn prot H₀ H env s.heap v a sl) (f : Froz H s.heap H s'.heap)
    (hs : ∀ b,b ≠ env.locals → (∀ y c,env.cells.lookup y = some c → b ≠ c) → s'.heap.get? b = s.heap.get? b) : SlotIn prot H₀ H env s'.heap v a sl := by
  cases sl with
  | unset => trivial
  | val x => exact rep_froz f _ _ r
  | own xs =>
    obtain ⟨e,h,⟨vs,p,q⟩,np,n0,nL,nc⟩ := r
    exact ⟨e,h,⟨vs,isList_mono p fun o eo => (hs a nL nc).trans eo,repL_froz f _ _ q⟩,np,n0,nL,nc⟩
theorem store_list {A : Around} {E : Value → Shared → Prop} {Q : Unit → Shared → Prop} {prot H₀ H : HS} : ∀ (l : List Sto) (σ : Sl) (s : Shared) (m cm : Str → Option Value) (ad : Nat → Addr),
    In P lev env ctx A prot H₀ H σ s m cm ad → (∀ e ∈ l,ctx[e.i]? = some e.x ∧ NameAt env e.x) → (∀ e ∈ l,SlotIn prot H₀ H env s.heap e.v e.a e.sl) → (∀ e ∈ l,isOwn e.sl → ∀ j ys,σ[j]? = some (.own ys) → e.a ≠ ad j) → One l →
    (∀ s' m' cm' ad',In P lev env ctx A prot H₀ H (l.foldl (fun σ e => σ.set e.i e.sl) σ) s' m' cm' ad' → Froz H s.heap H s'.heap → Moves prot s s' → Q () s') →
    wpAny (model P.prog P.w) A (assignInOrder (l.map fun e => bindName env e.x) (l.map (·.v))) Q E s
  | [],σ,s,m,cm,ad,X,_,_,_,_,c => wpAny_pure (c s m cm ad X (Froz.refl _ _) (moves_refl _ _))
  | e :: r,σ,s,m,cm,ad,X,hn,hsl,hown,h1,c => by
    obtain ⟨hi,hx⟩ := hn e (.head _)
    show wpAny _ _ (do holding (r.map (·.v)) (bindName env e.x e.v); assignInOrder (r.map fun e => bindName env e.x) (r.map (·.v))) _ _ _
    refine wpAny_bind (wpAny_holding (wpAny_bindName (store_slot (a := e.a) (sl := e.sl) X hi hx (hsl e (.head _)) (fun j xs ys he _ hj => hown e (.head _) (by rw [he]; trivial) j ys hj) fun s' m' cm' X' f mv hs => ?_)))
    refine store_list r _ s' m' cm' _ X' (fun g hg => hn g (.tail _ hg)) (fun g hg => (hsl g (.tail _ hg)).froz f hs) (fun g hg ho j ys hj => ?_) h1.2 fun s'' m'' cm'' ad'' X'' f' mv' => c s'' m'' cm'' ad'' X'' (f.trans f') (mv.tr mv')
    have hne : ¬ isOwn e.sl := fun z => h1.1 z g hg ho
    have hlen := lt_of_get hj
    rw [List.length_set] at hlen
    show g.a ≠ if j = e.i then e.a else ad j
    by_cases q : j = e.i
    · subst q
      rw [List.getElem?_set_self hlen] at hj
      cases hj' : e.sl with
      | own zs => rw [hj'] at hne; exact absurd trivial hne
      | unset => rw [hj'] at hj; cases hj
      | val z => rw [hj'] at hj; cases hj
    · rw [if_neg q]
      rw [List.getElem?_set_ne (Ne.symm q)] at hj
      exact hown g (.tail _ hg) ho j ys hj
noncomputable def mkSlot : Bool → PV → Option Slot
  | false,p => some (.val p)
  | true,.list xs => some (.own xs)
  | true,_ => none
noncomputable def EvB (P : Pk) (lev : Nat) (env : Env) (ctx : List Str) (b : Bool) (e : Expr) (d : Den) : Prop := match b with
  | false => Ev P lev env ctx e d
  | true => EvF P lev env ctx e d
theorem evb_all {A : Around} {prot H₀ : HS} {E : Value → Shared → Prop} {pos : Pos} : ∀ (bs : List Bool) (es : List Expr) (ds : List Den) (H : HS) (σ : Sl) (s : Shared) (m cm : Str → Option Value) (ad : Nat → Addr) (ps : List PV) (Q : List Value → Shared → Prop),
    In P lev env ctx A prot H₀ H σ s m cm ad → bs.length = es.length → es.length = ds.length → (∀ (k : Nat) (b : Bool) (e : Expr) (d : Den),bs[k]? = some b → es[k]? = some e → ds[k]? = some d → EvB P lev env ctx b e d) →
    (∀ (k : Nat) (e : Expr),es[k]? = some e → ∀ r,starEach (e :: r) env = (false,eval e env) :: starEach r env) → evs ds σ = some ps →
    (∀ (k : Nat) (b : Bool) (p : PV),bs[k]? = some b → ps[k]? = some p → (mkSlot b p).isSome = true) →
    (∀ (vs : List Value) (as : List Addr) (s' : Shared) (H' : HS),In P lev env ctx A prot H₀ H' σ s' m cm ad → Keeps s s' → Froz H s.heap H' s'.heap → (∀ b,H b → H' b) → vs.length = ps.length → as.length = ps.length →
      (∀ (k : Nat) (b : Bool) (p : PV) (v : Value) (a : Addr),bs[k]? = some b → ps[k]? = some p → vs[k]? = some v → as[k]? = some a → ∃ sl,mkSlot b p = some sl ∧ SlotIn prot H₀ H' env s'.heap v a sl ∧ (isOwn sl → s.heap.get? a = none)) → Q vs s') →
    wpAny (model P.prog P.w) A (spliced (backTo pos (starEach es env))) Q E s
  | bs,[],ds,H,σ,s,m,cm,ad,ps,Q,X,hb,hd,_,_,he,_,c => by
    have : ds = [] := List.eq_nil_of_length_eq_zero hd.symm
    subst this
    unfold evs at he; cases he
    exact wpAny_items_nil (c [] [] s H X (keeps_refl s) (Froz.refl _ _) (fun _ q => q) rfl rfl fun k b p v a h1 h2 => by simp at h2)
  | [],e :: es,ds,H,σ,s,m,cm,ad,ps,Q,X,hb,hd,_,_,he,_,c => by simp at hb
  | b :: bs,e :: es,[],H,σ,s,m,cm,ad,ps,Q,X,hb,hd,_,_,he,_,c => by simp at hd
  | b :: bs,e :: es,d :: ds,H,σ,s,m,cm,ad,ps,Q,X,hb,hd,hev,hst,he,hmk,c => by
    unfold evs at he
    split at he
    · cases he
    · rename_i p hp
      split at he
      · cases he
      · rename_i ps' hps
        cases he
        refine wpAny_items_cons ?_ (hst 0 e rfl es)
        have hev0 := hev 0 b e d rfl rfl rfl
        have rest : ∀ (H₁ : HS) (s₁ : Shared) (v : Value) (a : Addr) (sl : Slot),In P lev env ctx A prot H₀ H₁ σ s₁ m cm ad → Keeps s s₁ → Froz H s.heap H₁ s₁.heap → (∀ b,H b → H₁ b) → mkSlot b p = some sl → SlotIn prot H₀ H₁ env s₁.heap v a sl → (isOwn sl → s.heap.get? a = none) →
            wpAny (model P.prog P.w) A (spliced (backTo pos (starEach es env))) (fun vs s₂ => Q (v :: vs) s₂) E s₁ := fun H₁ s₁ v a sl X₁ k₁ f₁ u₁ hsl hin hnew => by
          refine evb_all bs es ds H₁ σ s₁ m cm ad ps' _ X₁ (by simpa using hb) (by simpa using hd) (fun k b e d h1 h2 h3 => hev (k + 1) b e d (by simpa using h1) (by simpa using h2) (by simpa using h3)) (fun k e h1 => hst (k + 1) e (by simpa using h1)) hps
            (fun k b p h1 h2 => hmk (k + 1) b p (by simpa using h1) (by simpa using h2)) fun vs as s' H' X' k' f' hsub hv ha hall => ?_
          refine c (v :: vs) (a :: as) s' H' X' (keeps_tr k₁ k') (f₁.trans f') (fun b q => hsub b (u₁ b q)) (by simp [hv]) (by simp [ha]) fun k b' p' v' a' h1 h2 h3 h4 => ?_
          cases k with
          | zero =>
            simp at h1 h2 h3 h4
            subst h1; subst h2; subst h3; subst h4
            refine ⟨sl,hsl,?_,hnew⟩
            cases sl with
            | unset => trivial
            | val x => exact rep_froz f' _ _ hin
            | own xs =>
              obtain ⟨e1,hh,⟨us,pl,q⟩,np,n0,nL,nc⟩ := hin
              have hH' : H' a := hsub a hh
              exact ⟨e1,hH',⟨us,isList_mono pl fun o eo => keeps_get k' _ o eo,repL_froz f' _ _ q⟩,np,n0,nL,nc⟩
          | succ k => obtain ⟨sl',q1,q2,q3⟩ := hall k b' p' v' a' (by simpa using h1) (by simpa using h2) (by simpa using h3) (by simpa using h4); exact ⟨sl',q1,q2,fun z => none_back k₁ (q3 z)⟩
        cases b with
        | false => exact hev0 A H σ s m cm ad p _ E X.st hp fun v s₁ k₁ r => rest H s₁ v 0 (.val p) (X.keeps k₁) k₁ (keeps_froz k₁) (fun _ q => q) rfl r fun z => z.elim
        | true =>
          have hm := hmk 0 true p rfl rfl
          cases p with
          | list xs =>
            refine hev0 A H σ s m cm ad xs _ E X.st hp fun a vs s₁ k₁ ha pl r => ?_
            obtain ⟨X₁,f₁⟩ := X.hide1 k₁ ha pl
            have nH : ¬ H a := X.st.hb.fresh ha
            have np : ¬ prot a := fun q => by obtain ⟨o,e⟩ := X.pl a q; rw [ha] at e; cases e
            exact rest _ s₁ (.ref a) a (.own xs) X₁ k₁ f₁ (fun _ q => .inl q) rfl ⟨rfl,.inr rfl,⟨vs,pl,r⟩,np,fun q => nH (X.sub a q),fun q => nH (q ▸ X.loc.1),fun y c e q => nH (q ▸ (X.cel y c e).1)⟩ fun _ => ha
          | _ => cases hm
theorem SlotIn.keeps {prot H₀ H : HS} {s s' : Shared} {v : Value} {a : Addr} {sl : Slot} (r : SlotIn prot H₀ H env s.heap v a sl) (k : Keeps s s') : SlotIn prot H₀ H env s'.heap v a sl := by
  cases sl with
  | unset => trivial
  | val x => exact rep_froz (keeps_froz k) _ _ r
  | own xs =>
    obtain ⟨e,h,⟨vs,p,q⟩,np,n0,nL,nc⟩ := r
    exact ⟨e,h,⟨vs,isList_mono p fun o eo => keeps_get k _ o eo,repL_froz (keeps_froz k) _ _ q⟩,np,n0,nL,nc⟩
theorem setMany_cons {i : Nat} {b : Bool} {is : List (Nat × Bool)} {p : PV} {ps : List PV} {σ σ' : Sl} (h : setMany ((i,b) :: is) (p :: ps) σ = some σ') : ∃ sl,mkSlot b p = some sl ∧ setMany is ps (σ.set i sl) = some σ' := by
  cases b with
  | false => exact ⟨_,rfl,h⟩
  | true =>
    cases p with
    | list xs => exact ⟨_,rfl,h⟩
    | _ => exact nomatch (show (none : Option Sl) = some _ from h)
theorem setMany_nil {ps : List PV} {σ σ' : Sl} (h : setMany [] ps σ = some σ') : ps = [] ∧ σ' = σ := by
  cases ps with
  | nil => cases h; exact ⟨rfl,rfl⟩
  | cons p ps => simp [sM3,sM4] at h
theorem mkSlot_own {b : Bool} {p : PV} {sl : Slot} (h : mkSlot b p = some sl) (o : isOwn sl) : b = true := by
  cases b with
  | true => rfl
  | false => cases h; exact o.elim
theorem unpack_keeps {A : Around} {s : Shared} {vs : List Value} {Q : List Value → Shared → Prop} {E : Value → Shared → Prop} {a : Addr} {n : Nat} (hA : A.handled = none) (ht : s.heap.IsTuple a (List.toArray vs)) (hn : vs.length = n)
    (h : ∀ s',Keeps s s' → Q vs s') : wpAny (model P.prog P.w) A (unpackItems (.ref a) n none) Q E s := by
  subst hn
  have := wpAny_unpackItems_tuple (prog := P.prog) (w := P.w) (A := A) (E := E) (s := s) (items := List.toArray vs) (Q := Q) hA ht fun h' hx => h _ ⟨h',s.toks,rfl,fun b o e => hx b o (fun q => Nat.lt_irrefl _ (q ▸ Heap.lt_size e)) e⟩
  simpa using this
theorem ex_swap2 {b₁ b₂ : Bool} {i j : Nat} {x y : Str} {tgts : List Expr} {e₁ e₂ : Expr} {k k' : Nat} {tp vp pos : Pos} {d₁ d₂ : Den} (hne : i ≠ j) (hbb : (b₁ && b₂) = false)
    (h₁ : EvB P lev env ctx b₁ e₁ d₁) (h₂ : EvB P lev env ctx b₂ e₂ d₂) (hs₁ : ∀ r,starEach (e₁ :: r) env = (false,eval e₁ env) :: starEach r env) (hs₂ : ∀ r,starEach (e₂ :: r) env = (false,eval e₂ env) :: starEach r env)
    (hi : ctx[i]? = some x) (hx : NameAt env x) (hj : ctx[j]? = some y) (hy : NameAt env y)
    (hs : swapsWithSole [.Tuple tgts k tp] (.Tuple [e₁,e₂] k' vp) pos.line env = pure false) (hw : swappedStores [.Tuple tgts k tp] (.Tuple [e₁,e₂] k' vp) env = pure (some [x,y])) :
    ExS P lev env ctx (.Assign [.Tuple tgts k tp] (.Tuple [e₁,e₂] k' vp) pos) (sTup [(i,b₁),(j,b₂)] [d₁,d₂]) := fun A prot H₀ H σ s m cm ad out Q E X h c => by
  unfold sTup at h
  split at h
  · cases h
  rename_i ps hps
  split at h
  · cases h
  rename_i σ' hσ
  cases h
  have hl := evs_length hps
  match ps,hl with
  | [p₁,p₂],_ =>
  obtain ⟨sl₁,m₁,hσ⟩ := setMany_cons hσ
  obtain ⟨sl₂,m₂,hσ⟩ := setMany_cons hσ
  obtain ⟨_,rfl⟩ := setMany_nil hσ
  refine Assign_Tuple_swapped (wpAny_Tuple (evb_all [b₁,b₂] [e₁,e₂] [d₁,d₂] H σ s m cm ad [p₁,p₂] _ X rfl rfl (fun k b e d q1 q2 q3 => ?_) (fun k e q => ?_) hps (fun k b p q1 q2 => ?_) fun vs as s₁ H' X₁ k₁ f₁ hsub hv ha hall => ?_)) hs hw
  · match k with
    | 0 => simp at q1 q2 q3; subst q1; subst q2; subst q3; exact h₁
    | 1 => simp at q1 q2 q3; subst q1; subst q2; subst q3; exact h₂
    | (k + 2) => simp at q1
  · match k with
    | 0 => simp at q; subst q; exact hs₁
    | 1 => simp at q; subst q; exact hs₂
    | (k + 2) => simp at q
  · match k with
    | 0 => simp at q1 q2; subst q1; subst q2; rw [m₁]; rfl
    | 1 => simp at q1 q2; subst q1; subst q2; rw [m₂]; rfl
    | (k + 2) => simp at q1
  · obtain ⟨u₁,u₂,rfl⟩ := len2 hv
    obtain ⟨a₁,a₂,rfl⟩ := len2 ha
    refine ⟨by rw [sizeLine_val]; simp,?_⟩
    have k₂ := keeps_push s₁ { cls := .type "tuple",data := .seq (List.toArray [u₁,u₂]) }
    refine unpack_keeps X.st.room.handled ⟨_,Heap.get?_push_size _ rfl,rfl,0,rfl⟩ rfl fun s₃ k₃ => ?_
    have k23 := keeps_tr k₂ k₃
    obtain ⟨s1',e1,i1,n1⟩ := hall 0 b₁ p₁ u₁ a₁ rfl rfl rfl rfl
    obtain ⟨s2',e2,i2,n2⟩ := hall 1 b₂ p₂ u₂ a₂ rfl rfl rfl rfl
    rw [m₁] at e1; cases e1
    rw [m₂] at e2; cases e2
    have live : ∀ (a : Addr),s.heap.get? a = none → ∀ j' ys,σ[j']? = some (.own ys) → a ≠ ad j' := fun a q j' ys e z => X.st.hb.fresh q (z ▸ own_H X e)
    refine store_list [⟨j,y,sl₂,u₂,a₂⟩,⟨i,x,sl₁,u₁,a₁⟩] σ s₃ m cm ad (X₁.keeps k23) ?_ ?_ ?_ ?_ fun s' m' cm' ad' X' f mv => ?_
    · intro e he
      simp only [List.mem_cons,List.not_mem_nil,or_false] at he
      rcases he with rfl | rfl
      · exact ⟨hj,hy⟩
      · exact ⟨hi,hx⟩
    · intro e he
      simp only [List.mem_cons,List.not_mem_nil,or_false] at he
      rcases he with rfl | rfl
      · exact i2.keeps k23
      · exact i1.keeps k23
    · intro e he ho
      simp only [List.mem_cons,List.not_mem_nil,or_false] at he
      rcases he with rfl | rfl
      · exact live _ (n2 ho)
      · exact live _ (n1 ho)
    · refine ⟨fun o g hg o' => ?_,(fun _ _ hg => nomatch hg),trivial⟩
      simp only [List.mem_cons,List.not_mem_nil,or_false] at hg
      subst hg
      rw [mkSlot_own m₁ o',mkSlot_own m₂ o] at hbb
      cases hbb
    · have hset : ([⟨j,y,sl₂,u₂,a₂⟩,⟨i,x,sl₁,u₁,a₁⟩] : List Sto).foldl (fun σ e => σ.set e.i e.sl) σ = (σ.set i sl₁).set j sl₂ := List.set_comm _ _ (Ne.symm hne)
      rw [hset] at X'
      exact c s' H' m' cm' ad' X' (f₁.trans ((keeps_froz k23).trans f)) ((keeps_moves (keeps_tr k₁ k23)).tr mv)
theorem ex_swap3 {b₁ : Bool} {i j l : Nat} {x y z : Str} {tgts : List Expr} {e₁ e₂ e₃ : Expr} {k k' : Nat} {tp vp pos : Pos} {d₁ d₂ d₃ : Den} (hne : i ≠ j) (hne₂ : i ≠ l) (hne₃ : j ≠ l)
    (h₁ : EvB P lev env ctx b₁ e₁ d₁) (h₂ : Ev P lev env ctx e₂ d₂) (h₃ : Ev P lev env ctx e₃ d₃) (hs₁ : ∀ r,starEach (e₁ :: r) env = (false,eval e₁ env) :: starEach r env) (hs₂ : ∀ r,starEach (e₂ :: r) env = (false,eval e₂ env) :: starEach r env)
    (hs₃ : ∀ r,starEach (e₃ :: r) env = (false,eval e₃ env) :: starEach r env)
    (hi : ctx[i]? = some x) (hx : NameAt env x) (hj : ctx[j]? = some y) (hy : NameAt env y) (hl : ctx[l]? = some z) (hz : NameAt env z)
    (hs : swapsWithSole [.Tuple tgts k tp] (.Tuple [e₁,e₂,e₃] k' vp) pos.line env = pure false) (hw : swappedStores [.Tuple tgts k tp] (.Tuple [e₁,e₂,e₃] k' vp) env = pure (some [x,y,z])) :
    ExS P lev env ctx (.Assign [.Tuple tgts k tp] (.Tuple [e₁,e₂,e₃] k' vp) pos) (sTup [(i,b₁),(j,false),(l,false)] [d₁,d₂,d₃]) := fun A prot H₀ H σ s m cm ad out Q E X h c => by
  unfold sTup at h
  split at h
  · cases h
  rename_i ps hps
  split at h
  · cases h
  rename_i σ' hσ
  cases h
  have hl' := evs_length hps
  obtain ⟨p₁,p₂,p₃,rfl⟩ := len3 hl'
  obtain ⟨sl₁,m₁,hσ⟩ := setMany_cons hσ
  obtain ⟨sl₂,m₂,hσ⟩ := setMany_cons hσ
  obtain ⟨sl₃,m₃,hσ⟩ := setMany_cons hσ
  obtain ⟨_,rfl⟩ := setMany_nil hσ
  refine Assign_Tuple_swapped (wpAny_Tuple (evb_all [b₁,false,false] [e₁,e₂,e₃] [d₁,d₂,d₃] H σ s m cm ad [p₁,p₂,p₃] _ X rfl rfl (fun k b e d q1 q2 q3 => ?_) (fun k e q => ?_) hps (fun k b p q1 q2 => ?_) fun vs as s₁ H' X₁ k₁ f₁ hsub hv ha hall => ?_)) hs hw
  · match k with
    | 0 => simp at q1 q2 q3; subst q1; subst q2; subst q3; exact h₁
    | 1 => simp at q1 q2 q3; subst q1; subst q2; subst q3; exact h₂
    | 2 => simp at q1 q2 q3; subst q1; subst q2; subst q3; exact h₃
    | (k + 3) => simp at q1
  · match k with
    | 0 => simp at q; subst q; exact hs₁
    | 1 => simp at q; subst q; exact hs₂
    | 2 => simp at q; subst q; exact hs₃
    | (k + 3) => simp at q
  · match k with
    | 0 => simp at q1 q2; subst q1; subst q2; rw [m₁]; rfl
    | 1 => simp at q1 q2; subst q1; subst q2; rw [m₂]; rfl
    | 2 => simp at q1 q2; subst q1; subst q2; rw [m₃]; rfl
    | (k + 3) => simp at q1
  · obtain ⟨u₁,u₂,u₃,rfl⟩ := len3 hv
    obtain ⟨a₁,a₂,a₃,rfl⟩ := len3 ha
    refine ⟨by rw [sizeLine_val]; simp,?_⟩
    have k₂ := keeps_push s₁ { cls := .type "tuple",data := .seq (List.toArray [u₁,u₂,u₃]) }
    refine unpack_keeps X.st.room.handled ⟨_,Heap.get?_push_size _ rfl,rfl,0,rfl⟩ rfl fun s₃ k₃ => ?_
    have k23 := keeps_tr k₂ k₃
    obtain ⟨s1',e1,i1,n1⟩ := hall 0 b₁ p₁ u₁ a₁ rfl rfl rfl rfl
    obtain ⟨s2',e2,i2,n2⟩ := hall 1 false p₂ u₂ a₂ rfl rfl rfl rfl
    obtain ⟨s3',e3,i3,n3⟩ := hall 2 false p₃ u₃ a₃ rfl rfl rfl rfl
    rw [m₁] at e1; cases e1
    rw [m₂] at e2; cases e2
    rw [m₃] at e3; cases e3
    have live : ∀ (a : Addr),s.heap.get? a = none → ∀ j' ys,σ[j']? = some (.own ys) → a ≠ ad j' := fun a q j' ys e z => X.st.hb.fresh q (z ▸ own_H X e)
    refine store_list [⟨l,z,sl₃,u₃,a₃⟩,⟨j,y,sl₂,u₂,a₂⟩,⟨i,x,sl₁,u₁,a₁⟩] σ s₃ m cm ad (X₁.keeps k23) ?_ ?_ ?_ ?_ fun s' m' cm' ad' X' f mv => ?_
    · intro e he
      simp only [List.mem_cons,List.not_mem_nil,or_false] at he
      rcases he with rfl | rfl | rfl
      · exact ⟨hl,hz⟩
      · exact ⟨hj,hy⟩
      · exact ⟨hi,hx⟩
    · intro e he
      simp only [List.mem_cons,List.not_mem_nil,or_false] at he
      rcases he with rfl | rfl | rfl
      · exact i3.keeps k23
      · exact i2.keeps k23
      · exact i1.keeps k23
    · intro e he ho
      simp only [List.mem_cons,List.not_mem_nil,or_false] at he
      rcases he with rfl | rfl | rfl
      · exact live _ (n3 ho)
      · exact live _ (n2 ho)
      · exact live _ (n1 ho)
    · refine ⟨fun o g hg o' => ?_,fun o g hg o' => ?_,(fun _ _ hg => nomatch hg),trivial⟩
      · exact absurd (mkSlot_own m₃ o) (by decide)
      · exact absurd (mkSlot_own m₂ o) (by decide)
    · have hset : ([⟨l,z,sl₃,u₃,a₃⟩,⟨j,y,sl₂,u₂,a₂⟩,⟨i,x,sl₁,u₁,a₁⟩] : List Sto).foldl (fun σ e => σ.set e.i e.sl) σ = ((σ.set i sl₁).set j sl₂).set l sl₃ := by
        show ((σ.set l sl₃).set j sl₂).set i sl₁ = _
        rw [List.set_comm (l := σ) sl₃ sl₂ (Ne.symm hne₃),List.set_comm sl₃ sl₁ (Ne.symm hne₂),List.set_comm (l := σ) sl₂ sl₁ (Ne.symm hne)]
      rw [hset] at X'
      exact c s' H' m' cm' ad' X' (f₁.trans ((keeps_froz k23).trans f)) ((keeps_moves (keeps_tr k₁ k23)).tr mv)
end
end Mine
end
section
open PySem PySem.W PyProof.Rows PySem.Calls
namespace Mine
section
variable {P : Pk} {lev : Nat} {env : Env} {ctx : List Str}
theorem setItem_plain {A : Around} {s : Shared} {E : Value → Shared → Prop} {l : Addr} {items : Array Value} {k : Int} {t : Tok} {v : Value} {Q : Unit → Shared → Prop} (hl : s.heap.PlainList l items)
    (h0 : 0 ≤ k) (hfit : k < 2 ^ 63) (hn : k < items.size)
    (hQ : ∀ h',h'.PlainList l (items.setIfInBounds k.toNat v) → Heap.SameBut l s.heap h' → Q () { s with heap := h' }) :
    wpAny (model P.prog P.w) A (setItem (.ref l) (.int k t) v) Q E s := by
  obtain ⟨ne,ho⟩ := hl
  have il : s.heap.IsList l items := ⟨_,ho,rfl,ne,rfl⟩
  have hd : (({ cls := .type "list",data := .seq items ne } : Obj)).data = .seq items ne := rfl
  unfold setItem
  try with_reducible refine wpAny_holding ?_
  first | refine wpAny_bind (wpAny_pure ?_) | skip
  refine wpAny_bind (wpAny_sequenceKey il.typeIs (by decide) ?_)
  refine wpAny_bind (wpAny_callSpecial?_slot (name := Str.ofString "__setitem__") il.typeIs slot_list_setitem
    (wpAny_call_entry slot_list_setitem il.typeIs entry_list_setitem ?_ (args_list_setitem _ _ _)))
  show wpAny _ _ (Builtin.List.listSubscript? (.int k t) >>= _) _ _ s
  refine wpAny_bind (wpAny_listSubscript_int (fitsIndex_of h0 hfit) ?_)
  clear hfit
  obtain ⟨j,rfl⟩ := Int.eq_ofNat_of_zero_le h0
  have hj : j < items.size := by lia
  have hx' : items[j]? = some items[j] := Array.getElem?_eq_getElem hj
  show wpAny _ _ ((seqItemAt l j >>= fun r => pure (r.map (j,·))) >>= _) _ _ s
  refine wpAny_bind (wpAny_bind (wpAny_seqItemAt ho hd (wpAny_pure ?_)))
  rw [hx']
  show wpAny _ _ (setSeqItemAt l j v >>= _) _ _ s
  have hfin : (s.heap.update l (Obj.mapSeq (·.setIfInBounds j v))).PlainList l (items.setIfInBounds j v) := by
    have hg := Heap.get?_update_self (Obj.mapSeq (·.setIfInBounds j v)) ho rfl
    exact ⟨_,hg⟩
  refine wpAny_bind (wpAny_setSeqItemAt ho hd ?_)
  first
    | exact wpAny_bind (wpAny_pure (wpAny_pure ⟨.none,rfl,wpAny_pure (hQ _ hfin (Heap.SameBut.update ..))⟩))
    | exact wpAny_pure ⟨.none,rfl,wpAny_pure (hQ _ hfin (Heap.SameBut.update ..))⟩
theorem In.ownTurn {A : Around} {prot H₀ H : HS} {σ : Sl} {s : Shared} {m cm : Str → Option Value} {ad : Nat → Addr} {i : Nat} {xs ys : List PV} {us : List Value} {h' : Heap} {tk : Nat} (X : In P lev env ctx A prot H₀ H σ s m cm ad) (e : σ[i]? = some (.own xs))
    (hs : Heap.SameBut (ad i) s.heap h') (p : h'.PlainList (ad i) (List.toArray us)) (r : RepL H s.heap ys us) :
    In P lev env ctx A prot H₀ H (σ.set i (.own ys)) { s with heap := h',toks := tk } m cm ad ∧ Froz H s.heap H h' ∧ Moves prot s { s with heap := h',toks := tk } := by
  have hi := lt_of_get e
  have O := X.own i xs e
  have hH := own_H X e
  obtain ⟨f,mv,hb,pg,pl⟩ := X.turn (s' := { s with heap := h',toks := tk }) hH O.1 ⟨h',tk,rfl⟩ (fun b n => hs.2 b n) (by obtain ⟨n,e⟩ := p; exact ⟨_,e⟩)
  have back : ∀ (j : Nat) (zs : List PV),(σ.set i (.own ys))[j]? = some (.own zs) → ∃ zs',σ[j]? = some (.own zs') := fun j zs ej => by
    by_cases q : j = i
    · exact ⟨xs,q ▸ e⟩
    · exact ⟨zs,by rwa [List.getElem?_set_ne (Ne.symm q)] at ej⟩
  refine ⟨⟨⟨X.st.room,pg,hb,X.st.ok,⟨X.st.vars.ns.sameBut hs (Ne.symm O.2.2.1),fun x c ec => (X.st.vars.cells x c ec).sameBut hs (Ne.symm (O.2.2.2 x c ec)),fun j x sl hj hσ => ?_⟩⟩,pl,X.sub,X.pgp,X.loc,X.cel,X.inj,fun j zs ej => ?_,fun j k zs ws ej ek n => ?_,X.nd,by rw [List.length_set]; exact X.sz⟩,f,mv⟩
  · by_cases q : j = i
    · subst q
      rw [List.getElem?_set_self hi] at hσ
      cases hσ
      exact ⟨(X.st.vars.slot j x _ hj e).1,hH,us,p,repL_froz f _ _ r⟩
    · rw [List.getElem?_set_ne (Ne.symm q)] at hσ
      have := X.st.vars.slot j x sl hj hσ
      cases sl with
      | unset => trivial
      | val w => obtain ⟨u,e,r⟩ := this; exact ⟨u,e,rep_froz f _ _ r⟩
      | own zs => obtain ⟨e',h',vs,p',r'⟩ := this; exact ⟨e',h',vs,isList_mono p' fun o eo => (hs.2 _ (X.apart j i zs xs hσ e q)).trans eo,repL_froz f _ _ r'⟩
  · obtain ⟨zs',ej'⟩ := back j zs ej; exact X.own j zs' ej'
  · obtain ⟨zs',ej'⟩ := back j zs ej
    obtain ⟨ws',ek'⟩ := back k ws ek
    exact X.apart j k zs' ws' ej' ek' n
theorem setIdx_some {xs ys : List PV} {k : Int} {v : PV} (h : setIdx xs k v = some ys) : 0 ≤ k ∧ k.toNat < xs.length ∧ ys = xs.set k.toNat v := by
  unfold setIdx at h
  split at h
  · rename_i q; cases h; exact ⟨q.1,q.2,rfl⟩
  · cases h
theorem ex_set {i : Nat} {x : Str} {xp sp pos : Pos} {k e : Expr} {dk dv : Den} (hi : ctx[i]? = some x) (hl : env.kindOf x = some .local) (hd : (x == ("__debug__" : Str)) = false) (hk : Ev P lev env ctx k dk) (he : Ev P lev env ctx e dv)
    (hs : swapsWith e (some (.Subscript (.Name x xp) k sp)) pos.line env = pure false) :
    ExS P lev env ctx (.Assign [.Subscript (.Name x xp) k sp] e pos) (sSet i dk dv) := fun A prot H₀ H σ s m cm ad out Q E X h c => by
  unfold sSet at h
  split at h
  · cases h
  rename_i v hv
  split at h
  · rename_i kk hkk
    split at h
    · rename_i xs hx
      split at h
      · rename_i ys hys
        split at h
        · rename_i hlen
          cases h
          obtain ⟨h0,hlt,rfl⟩ := setIdx_some hys
          have hlen' : xs.length ≤ 1000000 := hlen
          refine wpAny_Assign_Subscript (he A H σ s m cm ad v _ E X.st hv fun u s₁ k₁ r => ?_) hs
          refine name_own (X.keeps k₁).st hi hl hd hx fun vs pl rv hH => ?_
          refine hk A H σ s₁ m cm ad _ _ E (X.keeps k₁).st hkk fun vk s₂ k₂ rk => ?_
          obtain ⟨t,rfl⟩ := rk.int_inv
          have pl2 := isList_mono pl fun o eo => keeps_get k₂ _ o eo
          have hlv := rv.length
          refine setItem_plain pl2 h0 (by lia) (by rw [List.size_toArray,hlv]; lia) fun h' p' hsb => ?_
          have X2 := X.keeps (keeps_tr k₁ k₂)
          have p2 : h'.PlainList (ad i) (List.toArray (vs.set kk.toNat u)) := by
            have : (List.toArray vs).setIfInBounds kk.toNat u = List.toArray (vs.set kk.toNat u) := by simp
            rw [← this]; exact p'
          obtain ⟨X3,f3,mv3⟩ := X2.ownTurn (tk := s₂.toks) hx hsb p2 (RepL.set (rv.keeps k₂) (r.keeps k₂))
          exact c _ H m cm ad X3 ((keeps_froz (keeps_tr k₁ k₂)).trans f3) ((keeps_moves (keeps_tr k₁ k₂)).tr mv3)
        · cases h
      · cases h
    · cases h
  · cases h
noncomputable def OpI (P : Pk) (op : Operator) (f : PV → PV → Option PV) : Prop :=
  ∀ (A : Around) (H : HS) (s : Shared) (x y r : PV) (a b : Value) (Q : Value → Shared → Prop) (E : Value → Shared → Prop),
    Rep H s.heap x a → Rep H s.heap y b → f x y = some r → (∀ v s',Keeps s s' → Rep H s'.heap r v → Q v s') → wpAny (model P.prog P.w) A (inplaceOp op a b) Q E s
theorem oi_add : OpI P .Add addI := fun A H s x y r a b Q E ra rb e c => by
  unfold addI at e
  split at e
  · cases e
    obtain ⟨t,rfl⟩ := ra.int_inv
    obtain ⟨u,rfl⟩ := rb.int_inv
    exact PyProof.Rows.iadd_int (c _ _ (keeps_toks _ _) (Rep.int _ _))
  · cases e
theorem oi_sub : OpI P .Sub subI := fun A H s x y r a b Q E ra rb e c => by
  unfold subI at e
  split at e
  · cases e
    obtain ⟨t,rfl⟩ := ra.int_inv
    obtain ⟨u,rfl⟩ := rb.int_inv
    exact PyProof.Rows.isub_int (c _ _ (keeps_toks _ _) (Rep.int _ _))
  · cases e
theorem ex_augI {i : Nat} {x : Str} {xp sp pos : Pos} {op : Operator} {f : PV → PV → Option PV} {k e : Expr} {dk dv : Den} (hi : ctx[i]? = some x) (hl : env.kindOf x = some .local) (hd : (x == ("__debug__" : Str)) = false) (hk : Ev P lev env ctx k dk) (he : Ev P lev env ctx e dv) (ho : OpI P op f)
    (hs : ∀ (ov iv new : Value),augStore k ov iv new = do
            holding [new,ov,iv] (setItem ov iv new)
            release [new,ov,iv] []
            pure Flow.next) :
    ExS P lev env ctx (.AugAssign (.Subscript (.Name x xp) k sp) op e pos) (sAugI i f dk dv) := fun A prot H₀ H σ s m cm ad out Q E X h c => by
  unfold sAugI at h
  split at h
  · rename_i kk hkk
    split at h
    · rename_i xs hx
      split at h
      · cases h
      rename_i old hold
      split at h
      · cases h
      rename_i v hv
      split at h
      · cases h
      rename_i new hnew
      split at h
      · rename_i ys hys
        split at h
        · rename_i hlen
          cases h
          obtain ⟨h0,hlt,rfl⟩ := setIdx_some hys
          have hlen' : xs.length ≤ 1000000 := hlen
          refine wpAny_AugAssign_SubscriptAny (name_own X.st hi hl hd hx fun vs pl rv hH => ?_) hs
          refine hk A H σ s m cm ad _ _ E X.st hkk fun vk s₁ k₁ rk => ?_
          obtain ⟨t,rfl⟩ := rk.int_inv
          have pl1 := isList_mono pl fun o eo => keeps_get k₁ _ o eo
          refine getItem_plain pl1 (rv.keeps k₁) hlen hold fun vo ro => ?_
          refine he A H σ s₁ m cm ad _ _ E (X.keeps k₁).st hv fun u s₂ k₂ ru => ?_
          refine ho A H s₂ old v new vo u _ E (ro.keeps k₂) ru hnew fun w s₃ k₃ rw' => ?_
          have k23 := keeps_tr k₂ k₃
          have kk' := keeps_tr k₁ k23
          have pl3 := isList_mono pl fun o eo => keeps_get kk' _ o eo
          have hlv := rv.length
          refine setItem_plain pl3 h0 (by lia) (by rw [List.size_toArray,hlv]; lia) fun h' p' hsb => ?_
          have X3 := X.keeps kk'
          have p2 : h'.PlainList (ad i) (List.toArray (vs.set kk.toNat w)) := by
            have : (List.toArray vs).setIfInBounds kk.toNat w = List.toArray (vs.set kk.toNat w) := by simp
            rw [← this]; exact p'
          obtain ⟨X4,f4,mv4⟩ := X3.ownTurn (tk := s₃.toks) hx hsb p2 (RepL.set (rv.keeps kk') rw')
          exact c _ H m cm ad X4 ((keeps_froz kk').trans f4) ((keeps_moves kk').tr mv4)
        · cases h
      · cases h
    · cases h
  · cases h
theorem ex_aug {i : Nat} {x : Str} {xp pos : Pos} {op : Operator} {f : PV → PV → Option PV} {e : Expr} {d : Den} (hi : ctx[i]? = some x) (hl : env.kindOf x = some .local) (he : Ev P lev env ctx e d) (ho : OpI P op f) :
    ExS P lev env ctx (.AugAssign (.Name x xp) op e pos) (sAsg i (bin f (vr i) d)) := fun A prot H₀ H σ s m cm ad out Q E X h c => by
  unfold sAsg bin at h
  split at h
  · cases h
  rename_i w hw
  cases h
  split at hw
  · cases hw
  rename_i o hov
  split at hw
  · cases hw
  rename_i v hv
  obtain ⟨u,hu,r⟩ := X.st.vars.slot i x _ hi (vr_some hov)
  unfold vl at hu; rw [if_pos hl] at hu
  refine wpAny_AugAssign_Name (wpAny_loadName_local X.st.ok.kind hl X.st.vars.ns hu ?_)
  refine he A H σ s m cm ad v _ E X.st hv fun vv s₁ k₁ r1 => ?_
  refine ho A H s₁ o v w u vv _ E (r.keeps k₁) r1 hw fun nw s₂ k₂ rn => ?_
  have kk := keeps_tr k₁ k₂
  exact store_val (X.keeps kk) hi (.inl hl) rn fun s' m' cm' X' f mv => c s' H m' cm' _ X' ((keeps_froz kk).trans f) ((keeps_moves kk).tr mv)
theorem ex_app {i : Nat} {x : Str} {xp apos cpos pos : Pos} {e : Expr} {d : Den} (hi : ctx[i]? = some x) (hl : env.kindOf x = some .local) (hd : (x == ("__debug__" : Str)) = false) (he : Ev P lev env ctx e d)
    (hbase : attributeBase (.Name x xp) "append" env (eval (.Name x xp) env) = eval (.Name x xp) env) (hline : (apos.endLine == cpos.line) = true) (htrees : backTo cpos (starEach [e] env) = [(false,eval e env)])
    (hfew : ((backTo cpos (starEach [e] env)).all (fun x => !x.1) && (backToKw cpos (keywordEach [] env)).all (fun x => x.1.isSome)
      && decide (([e] : List Expr).length + ([] : List Keyword).length + (if ([] : List Keyword).isEmpty then 0 else 1) < 30)) = true)
    (hint : interactive env = false) (hs : swapsWith (.Call (.Attribute (.Name x xp) "append" apos) [e] [] cpos) none pos.line env = pure false) :
    ExS P lev env ctx (.Expr (.Call (.Attribute (.Name x xp) "append" apos) [e] [] cpos) pos) (sApp i d) := fun A prot H₀ H σ s m cm ad out Q E X h c => by
  unfold sApp at h
  split at h
  · cases h
  rename_i v hv
  split at h
  · rename_i xs hx
    split at h
    · rename_i hlen
      cases h
      have hlen' : xs.length < 1000000 := hlen
      refine wpAny_Expr_any (wpAny_Call_append hbase hfew hline htrees (name_own X.st hi hl hd hx fun vs pl rv hH => ?_)) hint hs
      refine ⟨ad i,List.toArray vs,rfl,?_,?_⟩
      · obtain ⟨n,e⟩ := pl; exact ⟨_,n,e,rfl,rfl,rfl⟩
      refine he A H σ s m cm ad v _ E X.st hv fun u s₁ k₁ r => ?_
      have pl1 := isList_mono pl fun o eo => keeps_get k₁ _ o eo
      have hlv := rv.length
      refine wpAny_list_append_plain pl1 (fun h' p' hsb => ?_) (by rw [List.size_toArray,sizeLine_val]; lia)
      have p2 : h'.PlainList (ad i) (List.toArray (vs ++ [u])) := by
        have : (List.toArray vs).push u = List.toArray (vs ++ [u]) := by simp
        rw [← this]; exact p'
      obtain ⟨X2,f2,mv2⟩ := (X.keeps k₁).ownTurn (tk := s₁.toks) hx hsb p2 (RepL.append (rv.keeps k₁) (RepL.cons r RepL.nil))
      exact c _ H m cm ad X2 ((keeps_froz k₁).trans f2) ((keeps_moves k₁).tr mv2)
    · cases h
  · cases h
end
end Mine
end
section
open PySem PySem.W PyProof.Rows PySem.Calls
namespace Mine
section
variable {P : Pk} {lev : Nat} {env : Env} {ctx : List Str}
theorem In.wr {A : Around} {prot H₀ H : HS} {σ : Sl} {s s' : Shared} {m cm : Str → Option Value} {ad : Nat → Addr} {wr : List Addr} (X : In P lev env ctx A prot H₀ H σ s m cm ad) (w : Wr wr s s') (hw : ∀ b ∈ wr,H b) (hl : ∀ b ∈ wr,∃ o,s'.heap.get? b = some o)
    (hpl : ∀ b,prot b → b ∉ wr ∨ ∃ o,s'.heap.get? b = some o) (hL : env.locals ∉ wr) (hc : ∀ x c,env.cells.lookup x = some c → c ∉ wr) (ho : ∀ j xs,σ[j]? = some (.own xs) → ad j ∉ wr) (hp : ∀ b ∈ wr,P.hp.get? b = none) :
    In P lev env ctx A prot H₀ H σ s' m cm ad ∧ Froz H s.heap H s'.heap := by
  have f := wr_froz w hw
  refine ⟨⟨⟨X.st.room,⟨X.st.pg.ok,fun b o e => w.keep b o (fun q => by rw [hp b q] at e; cases e) (X.st.pg.ext b o e)⟩,fun b q => ?_,X.st.ok,⟨X.st.vars.ns.at' fun o e => w.keep _ o hL e,fun x c e => ?_,fun j x sl hj hσ => ?_⟩⟩,fun b q => ?_,X.sub,X.pgp,X.loc,X.cel,X.inj,X.own,X.apart,X.nd,X.sz⟩,f⟩
  · by_cases z : b ∈ wr
    · exact hl b z
    · obtain ⟨o,e⟩ := X.st.hb b q; exact ⟨o,w.keep b o z e⟩
  · obtain ⟨o,e1,e2⟩ := X.st.vars.cells x c e; exact ⟨o,w.keep c o (hc x c e) e1,e2⟩
  · have := X.st.vars.slot j x sl hj hσ
    cases sl with
    | unset => trivial
    | val z => obtain ⟨u,e,r⟩ := this; exact ⟨u,e,rep_froz f _ _ r⟩
    | own ys => obtain ⟨e',h',vs,p',r'⟩ := this; exact ⟨e',h',vs,isList_mono p' fun o eo => w.keep _ o (ho j ys hσ) eo,repL_froz f _ _ r'⟩
  · obtain ⟨o,e⟩ := X.pl b q
    rcases hpl b q with z | z
    · exact ⟨o,w.keep b o z e⟩
    · exact z
theorem In.unhide {A : Around} {prot H₀ prot' H₀' H : HS} {σ : Sl} {s s' : Shared} {m cm : Str → Option Value} {ad : Nat → Addr} {wr : List Addr} (X : In P lev env ctx A prot' H₀' H σ s m cm ad) (w : Wr wr s s') (hw : ∀ b ∈ wr,H b)
    (hL : env.locals ∉ wr) (hc : ∀ x c,env.cells.lookup x = some c → c ∉ wr) (ho : ∀ j xs,σ[j]? = some (.own xs) → ad j ∉ wr) (hp : ∀ b ∈ wr,P.hp.get? b = none)
    (pp : ∀ b,prot b → prot' b ∧ b ∉ wr) (p0 : ∀ b,H₀ b → H₀' b ∧ b ∉ wr) (hpp : ∀ b o,P.hp.get? b = some o → prot b) :
    In P lev env ctx A prot H₀ (fun b => H b ∧ b ∉ wr) σ s' m cm ad ∧ Froz H s.heap (fun b => H b ∧ b ∉ wr) s'.heap := by
  have f : Froz H s.heap (fun b => H b ∧ b ∉ wr) s'.heap := fun b o n e => ⟨fun q => n q.1,w.keep b o (fun q => n (hw b q)) e⟩
  refine ⟨⟨⟨X.st.room,⟨X.st.pg.ok,fun b o e => w.keep b o (fun q => by rw [hp b q] at e; cases e) (X.st.pg.ext b o e)⟩,fun b q => ?_,X.st.ok,⟨X.st.vars.ns.at' fun o e => w.keep _ o hL e,fun x c e => ?_,fun j x sl hj hσ => ?_⟩⟩,fun b q => ?_,
    fun b q => ⟨X.sub b (p0 b q).1,(p0 b q).2⟩,hpp,⟨⟨X.loc.1,hL⟩,fun q => X.loc.2 (pp _ q).1⟩,fun x c e => ⟨⟨(X.cel x c e).1,hc x c e⟩,fun q => (X.cel x c e).2.1 (pp _ q).1,(X.cel x c e).2.2⟩,X.inj,
    fun j xs e => ⟨fun q => (X.own j xs e).1 (pp _ q).1,fun q => (X.own j xs e).2.1 (p0 _ q).1,(X.own j xs e).2.2⟩,X.apart,X.nd,X.sz⟩,f⟩
  · obtain ⟨o,e⟩ := X.st.hb b q.1; exact ⟨o,w.keep b o q.2 e⟩
  · obtain ⟨o,e1,e2⟩ := X.st.vars.cells x c e; exact ⟨o,w.keep c o (hc x c e) e1,e2⟩
  · have := X.st.vars.slot j x sl hj hσ
    cases sl with
    | unset => trivial
    | val z => obtain ⟨u,e,r⟩ := this; exact ⟨u,e,rep_froz f _ _ r⟩
    | own ys => obtain ⟨e',h',vs,p',r'⟩ := this; exact ⟨e',⟨h',ho j ys hσ⟩,vs,isList_mono p' fun o eo => w.keep _ o (ho j ys hσ) eo,repL_froz f _ _ r'⟩
  · obtain ⟨o,e⟩ := X.pl b (pp b q).1; exact ⟨o,w.keep b o (pp b q).2 e⟩
theorem In.protect {A : Around} {prot H₀ H prot' H₀' : HS} {σ : Sl} {s : Shared} {m cm : Str → Option Value} {ad : Nat → Addr} (X : In P lev env ctx A prot H₀ H σ s m cm ad) (hl : ∀ b,prot' b → ∃ o,s.heap.get? b = some o) (h0 : ∀ b,H₀' b → H b)
    (hp : ∀ b o,P.hp.get? b = some o → prot' b) (hL : ¬ prot' env.locals) (hc : ∀ x c,env.cells.lookup x = some c → ¬ prot' c) (ho : ∀ j xs,σ[j]? = some (.own xs) → ¬ prot' (ad j) ∧ ¬ H₀' (ad j)) :
    In P lev env ctx A prot' H₀' H σ s m cm ad :=
  ⟨X.st,hl,h0,hp,⟨X.loc.1,hL⟩,fun x c e => ⟨(X.cel x c e).1,hc x c e,(X.cel x c e).2.2⟩,X.inj,fun j xs e => ⟨(ho j xs e).1,(ho j xs e).2,(X.own j xs e).2.2⟩,X.apart,X.nd,X.sz⟩
theorem tgt_elts {tgt : Expr} {names : List Str} (h : TgtOk tgt names) : (∃ x p,tgt = .Name x p ∧ names = [x]) ∨ ∃ xs k pos,tgt = .Tuple (elts xs) k pos ∧ names = xs.map (·.1) := by
  cases h with
  | one x p => exact .inl ⟨x,p,rfl,rfl⟩
  | two x p y q k pos _ => exact .inr ⟨[(x,p),(y,q)],k,pos,rfl,rfl⟩
theorem for_bind {A : Around} {prot H₀ H : HS} {σ σ' : Sl} {s : Shared} {m cm : Str → Option Value} {ad : Nat → Addr} {tgt : Expr} {names : List Str} {is : List Nat} {pvs : List PV} {vals : List Value} {Y : Unit → Shared → Prop} {E : Value → Shared → Prop}
    (X : In P lev env ctx A prot H₀ H σ s m cm ad) (ht : TgtOk tgt names) (hl : is.length = names.length) (hn : ∀ (j i : Nat) (x : Str),is[j]? = some i → names[j]? = some x → ctx[i]? = some x ∧ NameAt env x) (r : RepL H s.heap pvs vals) (hb : bindT is pvs σ = some σ')
    (c : ∀ s' m' cm' ad',In P lev env ctx A prot H₀ H σ' s' m' cm' ad' → Froz H s.heap H s'.heap → Moves prot s s' → Y () s') : wpAny (model P.prog P.w) A (bindsTo tgt env vals) Y E s := by
  unfold bindT at hb
  rcases tgt_elts ht with ⟨x,p,rfl,rfl⟩ | ⟨xs,k,pos,rfl,rfl⟩
  · match is,hl with
    | [i],_ =>
      have hlen := setMany_length hb
      match pvs,hlen with
      | [q],_ =>
        obtain ⟨v,t,rfl,rv,rt⟩ := r.inv
        have := rt.inv_nil; subst this
        obtain ⟨h1,h2⟩ := hn 0 i x rfl rfl
        simp only [List.map_cons,List.map_nil,sM0,sM1] at hb
        cases hb
        exact wpAny_assign_Name (store_val X h1 h2 rv fun s' m' cm' X' f mv => c s' m' cm' _ X' f mv)
  · exact store_names is xs pvs vals prot H₀ H σ σ' s m cm ad X (by simpa using hl) (fun j i x a b => hn j i x.1 a (by rw [List.getElem?_map,b]; rfl)) r hb c
theorem for_core {tgt : Expr} {body : List Stmt} {names : List Str} {is : List Nat} {tk : PV → Option (List PV)} {db : SDen} (ht : TgtOk tgt names) (hl : is.length = names.length)
    (hn : ∀ (j i : Nat) (x : Str),is[j]? = some i → names[j]? = some x → ctx[i]? = some x ∧ NameAt env x) (hb : ExP P lev env ctx body db)
    {A : Around} {prot H₀ H : HS} {σ : Sl} {s s₁ s₂ : Shared} {m cm : Str → Option Value} {ad : Nat → Addr} {out : Out} {Q : Flow → Shared → Prop} {E : Value → Shared → Prop} {I : Addr} {xs : List PV} {comps : Nat → List PV} {src : HS → Heap → Prop} {fp wr : List Addr} {StI : Nat → Heap → Prop}
    (X : In P lev env ctx A prot H₀ H σ s m cm ad) (k₁ : Keeps s s₁) (k₂ : Keeps s₁ s₂) (F : Feed P A I tgt xs.length comps src fp wr StI) (hcomps : ∀ (i : Nat) (x : PV),xs[i]? = some x → tk x = some (comps i)) (hst : StI 0 s₂.heap) (hsrc : src H s₁.heap)
    (hwr : ∀ b ∈ wr,s₁.heap.get? b = none) (hfp : ∀ b ∈ fp,s₁.heap.get? b = none ∨ ¬ H b) (h : forGo tk is db xs σ = some out) (c : Post P lev env ctx A prot H₀ H s out Q) :
    codeAny (model P.prog P.w) A (.forLoop tgt (.ref I) body [] env) (fun r s' => match r with | .ok f => Q f s' | .error e => cameBackBy (model P.prog P.w) A env E e s') s₂ := by
  have X₁ := X.keeps k₁
  have hlive0 := F.live 0 _ hst
  have nfpH : ∀ b,H b → b ∉ fp := fun b q z => by
    rcases hfp b z with e | e
    · obtain ⟨o,eo⟩ := X₁.st.hb b q; rw [e] at eo; cases eo
    · exact e q
  obtain ⟨X₂,f₂⟩ := X₁.hide (H' := fun b => H b ∨ b ∈ wr) k₂ (fun b q => .inl q) (fun b q => by
    rcases q with q | q
    · exact (X₁.st.hb.keeps (keeps_get k₂)) b q
    · exact hlive0 b (F.sub b q)) (fun b q => q.imp_right fun z => hwr b z)
  have hpw : ∀ b ∈ wr,P.hp.get? b = none := fun b q => by
    cases e : P.hp.get? b with
    | none => rfl
    | some o => have := X₁.st.pg.ext b o e; rw [hwr b q] at this; cases this
  have hprw : ∀ b ∈ wr,¬ prot b := fun b q z => by obtain ⟨o,e⟩ := X₁.pl b z; rw [hwr b q] at e; cases e
  let prot' : HS := fun b => prot b ∨ b ∈ fp
  let H₀' : HS := fun b => H₀ b ∨ b ∈ wr
  have X₃ : In P lev env ctx A prot' H₀' (fun b => H b ∨ b ∈ wr) σ s₂ m cm ad := X₂.protect (fun b q => by
      rcases q with q | q
      · exact X₂.pl b q
      · exact hlive0 b q) (fun b q => by
      rcases q with q | q
      · exact .inl (X.sub b q)
      · exact .inr q) (fun b o e => .inl (X.pgp b o e)) (fun q => by
      rcases q with q | q
      · exact X.loc.2 q
      · exact nfpH _ X.loc.1 q) (fun x c' e q => by
      rcases q with q | q
      · exact (X.cel x c' e).2.1 q
      · exact nfpH _ (X.cel x c' e).1 q) (fun j ys e => ⟨fun q => by
      rcases q with q | q
      · exact (X.own j ys e).1 q
      · exact nfpH _ (own_H X e) q,fun q => by
      rcases q with q | q
      · exact (X.own j ys e).2.1 q
      · exact nfpH _ (own_H X e) (F.sub _ q)⟩)
  refine codeAny_forLoop_any (fun n s' => ∃ i σ' H' m' cm' ad',n = xs.length + 1 - i ∧ i ≤ xs.length ∧ In P lev env ctx A prot' H₀' H' σ' s' m' cm' ad' ∧ StI i s'.heap ∧ src H' s'.heap ∧ forGo tk is db (xs.drop i) σ' = some out ∧ Froz H s.heap H' s'.heap ∧ Moves prot s s') ?_ (xs.length + 1)
    ⟨0,σ,_,m,cm,ad,rfl,Nat.zero_le _,X₃,hst,F.srcm _ _ _ _ f₂ hsrc,by simpa using h,(keeps_froz k₁).trans f₂,keeps_moves (keeps_tr k₁ k₂)⟩
  rintro n s' ⟨i,σ',H',m',cm',ad',rfl,hi,X',hst',hsrc',hgo,f',mv'⟩
  have hwH : ∀ b ∈ wr,H' b := fun b q => X'.sub b (.inr q)
  have nL : env.locals ∉ wr := fun q => X'.loc.2 (.inr (F.sub _ q))
  have nC : ∀ x c,env.cells.lookup x = some c → c ∉ wr := fun x c e q => (X'.cel x c e).2.1 (.inr (F.sub _ q))
  have nO : ∀ j ys,σ'[j]? = some (.own ys) → ad' j ∉ wr := fun j ys e q => (X'.own j ys e).1 (.inr (F.sub _ q))
  have wmv : ∀ {s₄ : Shared},Wr wr s' s₄ → Moves prot s' s₄ := fun w => ⟨w.same,fun b o q e => w.keep b o (fun z => hprw b z q) e⟩
  by_cases hlt : i < xs.length
  · have hxi : xs[i]? = some xs[i] := List.getElem?_eq_getElem hlt
    refine F.item i H' s' _ _ hlt hst' hsrc' hwH fun v sv hgo' => ?_
    refine hgo' env _ _ _ fun s₄ vals rv hst₄ w₄ => ?_
    have hl4 := F.live _ _ hst₄
    obtain ⟨X₄,f₄⟩ := X'.wr w₄ hwH (fun b q => hl4 b (F.sub b q)) (fun b q => by
      by_cases z : b ∈ wr
      · exact .inr (hl4 b (F.sub b z))
      · exact .inl z) nL nC nO hpw
    have hcv := hcomps i _ hxi
    have hd : xs.drop i = xs[i] :: xs.drop (i + 1) := List.drop_eq_getElem_cons hlt
    rw [hd] at hgo
    unfold forGo at hgo
    rw [hcv] at hgo
    dsimp only at hgo
    split at hgo
    · cases hgo
    rename_i σ₅ hbind
    refine for_bind X₄ ht hl hn rv hbind fun s₅ m₅ cm₅ ad₅ X₅ f₅ mv₅ => ?_
    have hst₅ : StI (i + 1) s₅.heap := F.frame _ _ _ hst₄ fun b q o e => mv₅.keep b o (.inr q) e
    have mono : ∀ {s s' : Shared},Moves prot' s s' → Moves prot s s' := fun w => w.mono fun b q => .inl q
    split at hgo
    · cases hgo
    · rename_i v' hbody
      cases hgo
      refine hb A prot' H₀' H' σ₅ s₅ m₅ cm₅ ad₅ (.ret v') _ _ X₅ hbody fun s₆ H₆ u r h2 f6 mv6 => ?_
      exact c s₆ H₆ u r (fun b q => h2 b (.inl q)) (f'.trans (f₄.trans (f₅.trans f6))) (mv'.tr ((wmv w₄).tr ((mono mv₅).tr (mono mv6))))
    · rename_i σ₆ hbody
      refine hb A prot' H₀' H' σ₅ s₅ m₅ cm₅ ad₅ (.next σ₆) _ _ X₅ hbody fun s₆ H₆ m₆ cm₆ ad₆ X₆ f6 mv6 => ?_
      have ff := f₄.trans (f₅.trans f6)
      exact ⟨xs.length + 1 - (i + 1),by lia,i + 1,σ₆,H₆,m₆,cm₆,ad₆,rfl,hlt,X₆,F.frame _ _ _ hst₅ (fun b q o e => mv6.keep b o (.inr q) e),F.srcm _ _ _ _ ff hsrc',hgo,f'.trans ff,mv'.tr ((wmv w₄).tr ((mono mv₅).tr (mono mv6)))⟩
  · have hin : i = xs.length := by lia
    subst hin
    refine F.done s' _ _ hst' fun s₄ w₄ => ?_
    rw [List.drop_length] at hgo
    unfold forGo at hgo
    cases hgo
    obtain ⟨X₄,f₄⟩ := X'.unhide w₄ hwH nL nC nO hpw (prot := prot) (H₀ := H₀) (fun b q => ⟨.inl q,fun z => hprw b z q⟩) (fun b q => ⟨.inl q,fun z => by
      obtain ⟨o,e⟩ := X₁.st.hb b (X.sub b q); rw [hwr b z] at e; cases e⟩) X.pgp
    exact wpAny_execs_nil (c s₄ _ m' cm' ad' X₄ (f'.trans f₄) (mv'.tr (wmv w₄)))
theorem ex_for {tgt iter : Expr} {body : List Stmt} {pos : Pos} {names : List Str} {is : List Nat} {tk : PV → Option (List PV)} {it : IDen} {db : SDen} (ht : TgtOk tgt names) (hl : is.length = names.length)
    (hn : ∀ (j i : Nat) (x : Str),is[j]? = some i → names[j]? = some x → ctx[i]? = some x ∧ NameAt env x) (hit : ItJ P lev env ctx iter tgt tk it) (hb : ExP P lev env ctx body db) (hs : ∀ x,foldedSetIterable iter env x = pure x) :
    ExS P lev env ctx (.For tgt iter body [] pos) (sFor it tk is db) := fun A prot H₀ H σ s m cm ad out Q E X h c => by
  unfold sFor at h
  split at h
  · cases h
  rename_i xs hxs
  split at h
  case isFalse => cases h
  rename_i hall
  exact wpAny_For (hit A H σ s m cm ad xs _ E X.st hxs hall fun I s₁ s₂ comps src fp wr StI k₁ k₂ F hcomps hst hsrc hwr hfp => for_core ht hl hn hb X k₁ k₂ F hcomps hst hsrc hwr hfp h c) hs
end
end Mine
end
section
open PySem PySem.W PyProof.Rows PySem.Calls
namespace Mine
theorem bind_get (kindOf : Str → Option NameKind) : ∀ (ns : List Str) (vs : List Value) (m cm : Str → Option Value) (i : Nat) (x : Str) (v : Value),ns.Nodup → ns.length = vs.length → ns[i]? = some x → vs[i]? = some v →
    (if kindOf x = some .local then bindL kindOf (ns.zip vs) m x else bindC kindOf (ns.zip vs) cm x) = some v
  | [],vs,m,cm,i,x,v,_,_,h,_ => by simp at h
  | n :: ns,[],m,cm,i,x,v,_,h,_,_ => by simp at h
  | n :: ns,u :: vs,m,cm,i,x,v,nd,hl,hx,hv => by
    have stay : ∀ (l : List Str) (us : List Value) (m cm : Str → Option Value) (y : Str),y ∉ l → bindL kindOf (l.zip us) m y = m y ∧ bindC kindOf (l.zip us) cm y = cm y := by
      intro l
      induction l with
      | nil => intro us m cm y _; exact ⟨rfl,rfl⟩
      | cons a r ih =>
        intro us m cm y hy
        cases us with
        | nil => exact ⟨rfl,rfl⟩
        | cons w us =>
          have h1 : y ≠ a := fun q => hy (q ▸ .head _)
          have h2 : y ∉ r := fun q => hy (.tail _ q)
          simp only [List.zip_cons_cons,bindL,bindC]
          by_cases hk : kindOf a = some .local
          · rw [if_pos hk,if_pos hk]
            obtain ⟨e1,e2⟩ := ih us (fun z => if z = a then some w else m z) cm y h2
            rw [e1,e2,if_neg h1]; exact ⟨rfl,rfl⟩
          · rw [if_neg hk,if_neg hk]
            obtain ⟨e1,e2⟩ := ih us m (fun z => if z = a then some w else cm z) y h2
            rw [e1,e2,if_neg h1]; exact ⟨rfl,rfl⟩
    rw [List.nodup_cons] at nd
    cases i with
    | zero =>
      simp at hx hv
      subst hx; subst hv
      simp only [List.zip_cons_cons,bindL,bindC]
      by_cases hk : kindOf n = some .local
      · rw [if_pos hk,if_pos hk,(stay ns vs _ cm n nd.1).1]; simp
      · rw [if_neg hk,if_neg hk,(stay ns vs m _ n nd.1).2]; simp
    | succ i =>
      simp only [List.zip_cons_cons,bindL,bindC]
      exact bind_get kindOf ns vs _ _ i x v nd.2 (by simpa using hl) (by simpa using hx) (by simpa using hv)
structure DefOk (P : Pk) (f : Str) (a : Addr) (o : Obj) (fd : FuncData) (argn : List Str) (body : List Stmt) (ctx : List Str) : Prop where
  glob : P.mg f = some (.ref a)
  at_ : P.hp.get? a = some o
  data : o.data = .func fd
  code : P.hp.CodeRec fd.code fd.qualname
  body : fd.body = .stmts body
  binds : ∀ vals : List Value,vals.length = argn.length → bindArgs fd ⟨vals,[]⟩ = pure (argn.zip vals)
  clos : fd.closure = []
  glb : fd.globals = mainGlobals
  blt : fd.builtins = builtinsNs
  kinds : ∀ x ∈ argn,∀ n,fd.scope.names.lookup x = some .local ∨ (fd.scope.names.lookup x = some .cell ∧ ((cellsFrom n fd.scope.names []).lookup x).isSome = true)
  cor : fd.scope.isCoroutine = false
  gen : fd.scope.isGenerator = false
  kind : fd.scope.kind = .function
  nd : ctx.Nodup
  pre : ctx.take argn.length = argn
theorem call_entry {P : Pk} {lev : Nat} {f : Str} {a : Addr} {o : Obj} {fd : FuncData} {argn : List Str} {body : List Stmt} {ctx : List Str} (D : DefOk P f a o fd argn body ctx)
    {A : Around} {H : HS} {s : Shared} {xs : List PV} {vs : List Value} {Q : Value → Shared → Prop} {E : Value → Shared → Prop} (R : Room A (lev + 1)) (G : PG P s.heap) (B : HB H s.heap) (rs : RepL H s.heap xs vs) (hlen : xs.length = argn.length)
    (hb : ∀ (L : Addr) (s₁ : Shared) (m cm : Str → Option Value),s.heap.get? L = none → (∀ y c',(callEnvC fd L a).cells.lookup y = some c' → s.heap.get? c' = none) → (∃ h tk,s₁ = { s with heap := h,toks := tk }) → (∀ b o,s.heap.get? b = some o → s₁.heap.get? b = some o) →
      In P lev (callEnvC fd L a) ctx (A.deeper (callEnvC fd L a)) (fun b => ∃ o,s.heap.get? b = some o) H (fun b => H b ∨ b = L ∨ ∃ y,(callEnvC fd L a).cells.lookup y = some b) (xs.map .val ++ List.replicate (ctx.length - xs.length) .unset) s₁ m cm (fun _ => 0) →
      wpAny (model P.prog P.w) (A.deeper (callEnvC fd L a)) (execs body (callEnvC fd L a)) (fun f s' => Q (match f with | .ret v => v | _ => .none) s')
        (fun e s' => wpAny (model P.prog P.w) (A.deeper (callEnvC fd L a)) (leaving (callEnvC fd L a) e) (fun _ s'' => E e s'') (fun e' s'' => E e' s'') s') s₁) :
    wpAny (model P.prog P.w) A (PySem.call (.ref a) vs) Q E s := by
  have hvl := rs.length
  have nda : argn.Nodup := D.pre ▸ D.nd.take
  have hle : argn.length ≤ ctx.length := by rw [← D.pre]; simp; lia
  refine wpAny_call (codeAny_call_cells R.depth (G.kin a o D.at_) D.data G.nolimit (D.code.keeps G.ext) D.body (D.binds vs (by lia)) D.clos (fun x hx => ?_) (fun s₁ x => ?_) D.cor D.gen D.kind)
  · have := D.kinds x.1 (List.of_mem_zip hx).1 (s.heap.objs.size + 1)
    exact this
  let env := callEnvC fd s.heap.objs.size a
  have hL : env.locals = s.heap.objs.size := rfl
  have ok : EnvOk env := ⟨D.kind,D.glb,D.blt,D.gen,D.cor⟩
  have keep1 := x.toInCall.keep
  obtain ⟨h₁,tk₁,e₁⟩ := x.toInCall.same
  have newL : s.heap.get? env.locals = none := get_none_of_new
  have newC : ∀ y c',env.cells.lookup y = some c' → s.heap.get? c' = none := fun y c' e => get_none_of_ge (by
    have := x.above y c' (mem_of_lookup e)
    exact Nat.le_of_lt this)
  let H' : HS := fun b => H b ∨ b = env.locals ∨ ∃ y,env.cells.lookup y = some b
  have f1 : Froz H s.heap H' s₁.heap := fun b o n e => ⟨fun q => (by
    rcases q with q | q | ⟨y,q⟩
    · exact n q
    · rw [q,newL] at e; cases e
    · rw [newC y b q] at e; cases e),keep1 b o e⟩
  let σ : Sl := xs.map .val ++ List.replicate (ctx.length - xs.length) .unset
  have hσo : ∀ (i : Nat) (ys : List PV),σ[i]? = some (.own ys) → False := fun i ys e => by
    by_cases q : i < xs.length
    · rw [List.getElem?_append_left (by simpa using q),List.getElem?_map] at e
      cases z : xs[i]? with
      | none => rw [z] at e; cases e
      | some w => rw [z] at e; cases e
    · rw [List.getElem?_append_right (by simp; lia)] at e
      have := List.mem_of_getElem? e
      rw [List.mem_replicate] at this
      cases this.2
  have X : In P lev env ctx (A.deeper env) (fun b => ∃ o,s.heap.get? b = some o) H H' σ s₁ (bindL env.kindOf (argn.zip vs) fun _ => none) (bindC env.kindOf (argn.zip vs) fun _ => none) (fun _ => 0) := by
    refine ⟨⟨R.deeper ok,G.keeps keep1,fun b q => ?_,ok,⟨x.toInCall.ns,x.cell,fun i y sl hi hs => ?_⟩⟩,fun b ⟨o,e⟩ => ⟨o,keep1 b o e⟩,fun b q => .inl q,fun b o e => ⟨o,G.ext b o e⟩,⟨.inr (.inl rfl),fun ⟨o,e⟩ => (by rw [newL] at e; cases e)⟩,
      fun y c' e => ⟨.inr (.inr ⟨y,e⟩),fun ⟨o,e'⟩ => (by rw [newC y c' e] at e'; cases e'),fun q => ?_⟩,fun y z c' e e' => name_of_addr x.apart (mem_of_lookup e) (mem_of_lookup e'),fun i ys e => (hσo i ys e).elim,fun i j ys zs e => (hσo i ys e).elim,D.nd,?_⟩
    · rcases q with q | q | ⟨y,q⟩
      · obtain ⟨o,e⟩ := B b q; exact ⟨o,keep1 b o e⟩
      · obtain ⟨o,_,_,e,_⟩ := x.toInCall.ns; exact ⟨o,q ▸ e⟩
      · obtain ⟨o,e,_⟩ := x.cell y b q; exact ⟨o,e⟩
    · by_cases q : i < xs.length
      · rw [List.getElem?_append_left (by simpa using q),List.getElem?_map] at hs
        cases z : xs[i]? with
        | none => rw [z] at hs; cases hs
        | some w =>
          rw [z] at hs; cases hs
          obtain ⟨u,hu,ru⟩ := rs.get z
          refine ⟨u,?_,rep_froz f1 _ _ ru⟩
          have hiy : argn[i]? = some y := by
            rw [← D.pre,List.getElem?_take,if_pos (by lia)]; exact hi
          exact bind_get env.kindOf argn vs _ _ i y u nda (by lia) hiy hu
      · rw [List.getElem?_append_right (by simp; lia)] at hs
        have := List.mem_of_getElem? hs
        rw [List.mem_replicate] at this
        rw [this.2]; trivial
    · have := x.above y c' (mem_of_lookup e)
      exact Nat.lt_irrefl _ (q ▸ this : @LT.lt Nat _ c' c')
    · simp only [σ,List.length_append,List.length_map,List.length_replicate]; lia
  exact hb _ s₁ _ _ newL newC ⟨h₁,tk₁,e₁⟩ keep1 X
theorem fn_of {P : Pk} {lev : Nat} {f : Str} {a : Addr} {o : Obj} {fd : FuncData} {argn : List Str} {body : List Stmt} {ctx : List Str} {b : SDen} (D : DefOk P f a o fd argn body ctx)
    (hb : ∀ L,ExP P lev (callEnvC fd L a) ctx body b) : Fn P (lev + 1) f (fun args => if args.length = argn.length then run ctx.length b args else none) := by
  refine ⟨a,fd,D.glob,⟨o,D.at_,D.data⟩,fun A H s xs r vs Q E R G B rs h c => ?_⟩
  dsimp only at h
  split at h
  case isFalse => cases h
  rename_i hlen
  have hvl := rs.length
  have nda : argn.Nodup := D.pre ▸ D.nd.take
  have hle : argn.length ≤ ctx.length := by rw [← D.pre]; simp; lia
  refine wpAny_call (codeAny_call_cells R.depth (G.kin a o D.at_) D.data G.nolimit (D.code.keeps G.ext) D.body (D.binds vs (by lia)) D.clos (fun x hx => ?_) (fun s₁ x => ?_) D.cor D.gen D.kind)
  · have := D.kinds x.1 (List.of_mem_zip hx).1 (s.heap.objs.size + 1)
    exact this
  let env := callEnvC fd s.heap.objs.size a
  have hL : env.locals = s.heap.objs.size := rfl
  have ok : EnvOk env := ⟨D.kind,D.glb,D.blt,D.gen,D.cor⟩
  have keep1 := x.toInCall.keep
  obtain ⟨h₁,tk₁,e₁⟩ := x.toInCall.same
  have newL : s.heap.get? env.locals = none := get_none_of_new
  have newC : ∀ y c',env.cells.lookup y = some c' → s.heap.get? c' = none := fun y c' e => get_none_of_ge (by
    have := x.above y c' (mem_of_lookup e)
    exact Nat.le_of_lt this)
  let H' : HS := fun b => H b ∨ b = env.locals ∨ ∃ y,env.cells.lookup y = some b
  have f1 : Froz H s.heap H' s₁.heap := fun b o n e => ⟨fun q => (by
    rcases q with q | q | ⟨y,q⟩
    · exact n q
    · rw [q,newL] at e; cases e
    · rw [newC y b q] at e; cases e),keep1 b o e⟩
  let σ : Sl := xs.map .val ++ List.replicate (ctx.length - xs.length) .unset
  have hσo : ∀ (i : Nat) (ys : List PV),σ[i]? = some (.own ys) → False := fun i ys e => by
    by_cases q : i < xs.length
    · rw [List.getElem?_append_left (by simpa using q),List.getElem?_map] at e
      cases z : xs[i]? with
      | none => rw [z] at e; cases e
      | some w => rw [z] at e; cases e
    · rw [List.getElem?_append_right (by simp; lia)] at e
      have := List.mem_of_getElem? e
      rw [List.mem_replicate] at this
      cases this.2
  have X : In P lev env ctx (A.deeper env) (fun b => ∃ o,s.heap.get? b = some o) H H' σ s₁ (bindL env.kindOf (argn.zip vs) fun _ => none) (bindC env.kindOf (argn.zip vs) fun _ => none) (fun _ => 0) := by
    refine ⟨⟨R.deeper ok,G.keeps keep1,fun b q => ?_,ok,⟨x.toInCall.ns,x.cell,fun i y sl hi hs => ?_⟩⟩,fun b ⟨o,e⟩ => ⟨o,keep1 b o e⟩,fun b q => .inl q,fun b o e => ⟨o,G.ext b o e⟩,⟨.inr (.inl rfl),fun ⟨o,e⟩ => (by rw [newL] at e; cases e)⟩,
      fun y c' e => ⟨.inr (.inr ⟨y,e⟩),fun ⟨o,e'⟩ => (by rw [newC y c' e] at e'; cases e'),fun q => ?_⟩,fun y z c' e e' => name_of_addr x.apart (mem_of_lookup e) (mem_of_lookup e'),fun i ys e => (hσo i ys e).elim,fun i j ys zs e => (hσo i ys e).elim,D.nd,?_⟩
    · rcases q with q | q | ⟨y,q⟩
      · obtain ⟨o,e⟩ := B b q; exact ⟨o,keep1 b o e⟩
      · obtain ⟨o,_,_,e,_⟩ := x.toInCall.ns; exact ⟨o,q ▸ e⟩
      · obtain ⟨o,e,_⟩ := x.cell y b q; exact ⟨o,e⟩
    · by_cases q : i < xs.length
      · rw [List.getElem?_append_left (by simpa using q),List.getElem?_map] at hs
        cases z : xs[i]? with
        | none => rw [z] at hs; cases hs
        | some w =>
          rw [z] at hs; cases hs
          obtain ⟨u,hu,ru⟩ := rs.get z
          refine ⟨u,?_,rep_froz f1 _ _ ru⟩
          have hiy : argn[i]? = some y := by
            rw [← D.pre,List.getElem?_take,if_pos (by lia)]; exact hi
          exact bind_get env.kindOf argn vs _ _ i y u nda (by lia) hiy hu
      · rw [List.getElem?_append_right (by simp; lia)] at hs
        have := List.mem_of_getElem? hs
        rw [List.mem_replicate] at this
        rw [this.2]; trivial
    · have := x.above y c' (mem_of_lookup e)
      exact Nat.lt_irrefl _ (q ▸ this : @LT.lt Nat _ c' c')
    · simp only [σ,List.length_append,List.length_map,List.length_replicate]; lia
  unfold run at h
  split at h
  · rename_i v hv
    cases h
    refine hb _ (A.deeper env) _ H H' σ s₁ _ _ _ (.ret r) _ _ X hv fun s' H'' u ru h2 ff mv => ?_
    obtain ⟨h',tk',e'⟩ := mv.same
    refine c u s' ⟨h',tk',by rw [e',e₁],fun b o e => ?_⟩ (rep_froz (fun b o n e => ⟨fun q => n (h2 b q),e⟩) _ _ ru)
    have := mv.keep b o ⟨o,e⟩ (keep1 b o e)
    rw [e'] at this
    exact this
  · rename_i σ' hv
    cases h
    refine hb _ (A.deeper env) _ H H' σ s₁ _ _ _ (.next σ') _ _ X hv fun s' H'' m' cm' ad' X' ff mv => ?_
    obtain ⟨h',tk',e'⟩ := mv.same
    refine c .none s' ⟨h',tk',by rw [e',e₁],fun b o e => ?_⟩ Rep.none
    have := mv.keep b o ⟨o,e⟩ (keep1 b o e)
    rw [e'] at this
    exact this
  · cases h
end Mine
end
section
open PySem PySem.W PyProof.Rows PySem.Calls
namespace Mine
noncomputable def stAt (i : Nat) : Stmt := (PySem.Challenge.pw_xm0092_01.main.body[i]?).getD (.Pass default)
noncomputable def bodyOf : Stmt → List Stmt
  | .FunctionDef _ _ b _ _ _ _ _ _ _ => b
  | _ => []
noncomputable def scopeOf : Stmt → Scope
  | .FunctionDef _ _ _ _ _ _ sc _ _ _ => sc
  | _ => default
noncomputable def argsOf : Stmt → Arguments
  | .FunctionDef _ a _ _ _ _ _ _ _ _ => a
  | _ => default
noncomputable def nameOfS : Stmt → Str
  | .FunctionDef n _ _ _ _ _ _ _ _ _ => n
  | _ => default
noncomputable def Def (P : Pk) (i : Nat) (f : Str) : Prop :=
  ∃ (a : Addr) (oc : Value) (od : Option Addr) (osl : Array (Option Value)) (doc pm : Value) (an : Option Addr) (cdv ct : Value),
    P.mg f = some (.ref a) ∧ P.hp.get? a = some ⟨oc,od,.func (fnOf f f (argsOf (stAt i)) (bodyOf (stAt i)) (scopeOf (stAt i)) .none .none doc pm an cdv ct),osl⟩ ∧ P.hp.CodeRec cdv f
theorem fn_def {P : Pk} {lev : Nat} {i : Nat} {f : Str} {argn ctx : List Str} {b : SDen} (D : Def P i f)
    (hbind : ∀ (doc pm : Value) (an : Option Addr) (cdv ct : Value) (vals : List Value),vals.length = argn.length → bindArgs (fnOf f f (argsOf (stAt i)) (bodyOf (stAt i)) (scopeOf (stAt i)) .none .none doc pm an cdv ct) ⟨vals,[]⟩ = pure (argn.zip vals))
    (hkinds : ∀ x ∈ argn,∀ n,(scopeOf (stAt i)).names.lookup x = some .local ∨ ((scopeOf (stAt i)).names.lookup x = some .cell ∧ ((cellsFrom n (scopeOf (stAt i)).names []).lookup x).isSome = true))
    (hcor : (scopeOf (stAt i)).isCoroutine = false) (hgen : (scopeOf (stAt i)).isGenerator = false) (hkind : (scopeOf (stAt i)).kind = .function) (hnd : ctx.Nodup) (hpre : ctx.take argn.length = argn)
    (hb : ∀ L a doc pm an cdv ct,ExP P lev (callEnvC (fnOf f f (argsOf (stAt i)) (bodyOf (stAt i)) (scopeOf (stAt i)) .none .none doc pm an cdv ct) L a) ctx (bodyOf (stAt i)) b) :
    Fn P (lev + 1) f (fun args => if args.length = argn.length then run ctx.length b args else none) := by
  obtain ⟨a,oc,od,osl,doc,pm,an,cdv,ct,hm,hk,hc⟩ := D
  exact fn_of (o := ⟨oc,od,.func (fnOf f f (argsOf (stAt i)) (bodyOf (stAt i)) (scopeOf (stAt i)) .none .none doc pm an cdv ct),osl⟩) ⟨hm,hk,rfl,hc,rfl,hbind doc pm an cdv ct,rfl,rfl,rfl,hkinds,hcor,hgen,hkind,hnd,hpre⟩ fun L => hb L a doc pm an cdv ct
structure Miss (P : Pk) : Prop where
  abs : P.mg "abs" = none
  len : P.mg "len" = none
  max : P.mg "max" = none
  min : P.mg "min" = none
  list : P.mg "list" = none
  range : P.mg "range" = none
  enumerate : P.mg "enumerate" = none
  reversed : P.mg "reversed" = none
  isinstance : P.mg "isinstance" = none
  str : P.mg "str" = none
  zip : P.mg "zip" = none
  sum : P.mg "sum" = none
  set : P.mg "set" = none
  int : P.mg "int" = none
section
variable {P : Pk} {env : Env}
theorem bn_abs (M : Miss P) (hk : env.kindOf "abs" = some .globalImplicit) : BiName P env "abs" (.builtin "abs") := ⟨hk,M.abs,by decide +kernel,by decide,by decide⟩
theorem bn_len (M : Miss P) (hk : env.kindOf "len" = some .globalImplicit) : BiName P env "len" (.builtin "len") := ⟨hk,M.len,by decide +kernel,by decide,by decide⟩
theorem bn_max (M : Miss P) (hk : env.kindOf "max" = some .globalImplicit) : BiName P env "max" (.builtin "max") := ⟨hk,M.max,by decide +kernel,by decide,by decide⟩
theorem bn_min (M : Miss P) (hk : env.kindOf "min" = some .globalImplicit) : BiName P env "min" (.builtin "min") := ⟨hk,M.min,by decide +kernel,by decide,by decide⟩
theorem bn_list (M : Miss P) (hk : env.kindOf "list" = some .globalImplicit) : BiName P env "list" (.type "list") := ⟨hk,M.list,by decide +kernel,by decide,by decide⟩
theorem bn_range (M : Miss P) (hk : env.kindOf "range" = some .globalImplicit) : BiName P env "range" (.type "range") := ⟨hk,M.range,by decide +kernel,by decide,by decide⟩
theorem bn_enumerate (M : Miss P) (hk : env.kindOf "enumerate" = some .globalImplicit) : BiName P env "enumerate" (.type "enumerate") := ⟨hk,M.enumerate,by decide +kernel,by decide,by decide⟩
theorem bn_reversed (M : Miss P) (hk : env.kindOf "reversed" = some .globalImplicit) : BiName P env "reversed" (.type "reversed") := ⟨hk,M.reversed,by decide +kernel,by decide,by decide⟩
theorem bn_isinstance (M : Miss P) (hk : env.kindOf "isinstance" = some .globalImplicit) : BiName P env "isinstance" (.builtin "isinstance") := ⟨hk,M.isinstance,by decide +kernel,by decide,by decide⟩
theorem bn_str (M : Miss P) (hk : env.kindOf "str" = some .globalImplicit) : BiName P env "str" (.type "str") := ⟨hk,M.str,by decide +kernel,by decide,by decide⟩
theorem bn_zip (M : Miss P) (hk : env.kindOf "zip" = some .globalImplicit) : BiName P env "zip" (.type "zip") := ⟨hk,M.zip,by decide +kernel,by decide,by decide⟩
theorem bn_sum (M : Miss P) (hk : env.kindOf "sum" = some .globalImplicit) : BiName P env "sum" (.builtin "sum") := ⟨hk,M.sum,by decide +kernel,by decide,by decide⟩
theorem bn_set (M : Miss P) (hk : env.kindOf "set" = some .globalImplicit) : BiName P env "set" (.type "set") := ⟨hk,M.set,by decide +kernel,by decide,by decide⟩
theorem bn_int (M : Miss P) (hk : env.kindOf "int" = some .globalImplicit) : BiName P env "int" (.type "int") := ⟨hk,M.int,by decide +kernel,by decide,by decide⟩
end
theorem take1_len (x : PV) (vs : List PV) (h : take1 x = some vs) : vs.length = 1 := by cases h; rfl
theorem take2_len (x : PV) (vs : List PV) (h : take2 x = some vs) : vs.length = 2 := by
  unfold take2 at h
  split at h
  · cases h; rfl
  · cases h
theorem subOk {i : Expr} (h : ∀ o j,subscripted i false o j = operate [o,j] (getItem o j)) : SubOk i := fun o j => ⟨_,h o j⟩
theorem subOkS {i : Expr} (h : ∀ o j,subscripted i false o j = operate [j,o] (getItem o j)) : SubOk i := fun o j => ⟨_,h o j⟩
noncomputable def AllSub (cells : List (Str × Addr)) : List (Str × Addr) → Prop
  | [] => True
  | p :: r => cells.lookup p.1 = some p.2 ∧ AllSub cells r
theorem allSub {cells : List (Str × Addr)} : ∀ {cl : List (Str × Addr)},AllSub cells cl → ∀ x c,cl.lookup x = some c → cells.lookup x = some c
  | [],_,x,c,h => by cases h
  | (y,d) :: r,⟨h1,h2⟩,x,c,h => by
    rw [List.lookup_cons] at h
    cases e : x == y with
    | true => rw [e] at h; cases h; rw [beq_iff_eq.mp e]; exact h1
    | false => rw [e] at h; exact allSub h2 x c h
noncomputable def AllFr (env : Env) (ctx : List Str) (scope : Scope) (cl : List (Str × Addr)) : List Nat → List Str → Prop
  | [],[] => True
  | i :: r,y :: t => (ctx[i]? = some y ∧ env.kindOf y = some .cell ∧ ∀ C,(compEnvC scope cl C env).kindOf y = some .cell) ∧ AllFr env ctx scope cl r t
  | _,_ => False
theorem allFr_len {env : Env} {ctx : List Str} {scope : Scope} {cl : List (Str × Addr)} : ∀ {fr : List Nat} {frn : List Str},AllFr env ctx scope cl fr frn → frn.length = fr.length
  | [],[],_ => rfl
  | i :: r,y :: t,h => by simp [allFr_len h.2]
  | [],_ :: _,h => h.elim
  | _ :: _,[],h => h.elim
theorem allFr_get {env : Env} {ctx : List Str} {scope : Scope} {cl : List (Str × Addr)} : ∀ {fr : List Nat} {frn : List Str},AllFr env ctx scope cl fr frn → ∀ (j i : Nat),fr[j]? = some i → ∃ y,ctx[i]? = some y ∧ frn[j]? = some y ∧ env.kindOf y = some .cell ∧ ∀ C,(compEnvC scope cl C env).kindOf y ≠ some .local
  | [],[],_,j,i,h => by simp at h
  | i :: r,y :: t,h,j,k,e => by
    cases j with
    | zero => simp at e; subst e; exact ⟨y,h.1.1,rfl,h.1.2.1,fun C q => by rw [h.1.2.2 C] at q; cases q⟩
    | succ j => obtain ⟨z,a,b,c⟩ := allFr_get h.2 j k (by simpa using e); exact ⟨z,a,by simpa using b,c⟩
  | [],_ :: _,h,_,_,_ => h.elim
  | _ :: _,[],h,_,_,_ => h.elim
theorem compOk {env : Env} {ctx : List Str} {scope : Scope} {cl : List (Str × Addr)} {names frn : List Str} {fr : List Nat} (clos : closureFor scope env = pure cl) (sub : AllSub env.cells cl)
    (cell : (scope.names.all fun y => decide (y.2 ≠ .cell)) = true) (kind : scope.kind = .function) (gen : scope.isGenerator = false) (cor : scope.isCoroutine = false)
    (nloc : (scope.names.all fun y => decide (y.2 = .local → scope.names.lookup y.1 = some .local)) = true) (tgt : (names.all fun x => decide (scope.names.lookup x = some .local)) = true)
    (hfr : AllFr env ctx scope cl fr frn) : CompOk env ctx scope cl names fr (names ++ frn) where
  clos := clos
  sub := allSub sub
  cell := fun y hy => of_decide_eq_true (List.all_eq_true.mp cell y hy)
  kind := kind
  gen := gen
  cor := cor
  nloc := fun y hy => of_decide_eq_true (List.all_eq_true.mp nloc y hy)
  tgt := fun x hx => of_decide_eq_true (List.all_eq_true.mp tgt x hx)
  pre := fun i hi => List.getElem?_append_left hi
  fre := fun j i h => by
    obtain ⟨y,a,b,c⟩ := allFr_get hfr j i h
    exact ⟨y,a,by rw [List.getElem?_append_right (by lia)]; simpa using b,c⟩
  len := by rw [List.length_append,allFr_len hfr]
noncomputable def AllNm (env : Env) (ctx : List Str) : List Nat → List (Str × Pos) → Prop
  | [],[] => True
  | i :: r,x :: t => (ctx[i]? = some x.1 ∧ NameAt env x.1) ∧ AllNm env ctx r t
  | _,_ => False
theorem allNm {env : Env} {ctx : List Str} : ∀ {is : List Nat} {xs : List (Str × Pos)},AllNm env ctx is xs → ∀ (j i : Nat) (x : Str × Pos),is[j]? = some i → xs[j]? = some x → ctx[i]? = some x.1 ∧ NameAt env x.1
  | [],[],_,j,i,x,h,_ => by simp at h
  | i :: r,y :: t,h,j,k,x,e,e' => by
    cases j with
    | zero => simp at e e'; subst e; subst e'; exact h.1
    | succ j => exact allNm h.2 j k x (by simpa using e) (by simpa using e')
  | [],_ :: _,h,_,_,_,_,_ => h.elim
  | _ :: _,[],h,_,_,_,_,_ => h.elim
noncomputable def AllN (env : Env) (ctx : List Str) : List Nat → List Str → Prop
  | [],[] => True
  | i :: r,x :: t => (ctx[i]? = some x ∧ NameAt env x) ∧ AllN env ctx r t
  | _,_ => False
theorem allN {env : Env} {ctx : List Str} : ∀ {is : List Nat} {xs : List Str},AllN env ctx is xs → ∀ (j i : Nat) (x : Str),is[j]? = some i → xs[j]? = some x → ctx[i]? = some x ∧ NameAt env x
  | [],[],_,j,i,x,h,_ => by simp at h
  | i :: r,y :: t,h,j,k,x,e,e' => by
    cases j with
    | zero => simp at e e'; subst e; subst e'; exact h.1
    | succ j => exact allN h.2 j k x (by simpa using e) (by simpa using e')
  | [],_ :: _,h,_,_,_,_,_ => h.elim
  | _ :: _,[],h,_,_,_,_,_ => h.elim
theorem ev_isStr {P : Pk} {lev : Nat} {env : Env} {ctx : List Str} {f g : Str} {p p' : Pos} {e : Expr} {pos : Pos} {d : Den} (N : BiName P env f (.builtin "isinstance")) (N' : BiName P env g (.type "str")) (ha : Ev P lev env ctx e d)
    (hs : starEach [e,.Name g p'] env = (false,eval e env) :: starEach [.Name g p'] env) :
    Ev P lev env ctx (.Call (.Name f p) [e,.Name g p'] [] pos) (una isStrV d) := fun A H σ s m cm ad pv Q E S h c => by
  unfold una at h
  split at h
  · cases h
  · rename_i x hx
    rw [eval_call_name]
    refine wpAny_bind (name_builtin S N.k N.miss N.boot N.nn N.nd ?_)
    refine callWith_builtin (backTo_plain _ (by rw [hs]; rfl)) (wp_args hs ?_)
    refine wpAny_items_cons (ha A H σ s m cm ad _ _ E S hx fun v s₁ k₁ r => ?_) hs
    refine wpAny_items_cons (name_builtin (S.keeps k₁) N'.k N'.miss N'.boot N'.nn N'.nd (wpAny_items_nil ?_))
    exact bi_isStr A lev H s₁ x pv v Q E S.room (S.keeps k₁).pg (S.keeps k₁).hb r h fun v s₂ k₂ r => c v s₂ (keeps_tr k₁ k₂) r
end Mine
end
section
open PySem PySem.W PyProof.Rows
set_option maxRecDepth 100000
set_option maxHeartbeats 8000000
namespace Mine
noncomputable def notAsg : Stmt → Bool
  | .Assign .. => false
  | _ => true
noncomputable def vw : Program := { PySem.Challenge.pw_xm0092_01 with main := { PySem.Challenge.pw_xm0092_01.main with body := PySem.Challenge.pw_xm0092_01.main.body.filter notAsg } }
noncomputable def layT : BT → Nat → List Obj → BT
  | T,_,[] => T
  | T,i,o :: r => layT (T.ins i o) (i + 1) r
noncomputable abbrev PW : Program := PySem.Challenge.pw_xm0092_01
noncomputable def hEnv : Env := { scope := PW.main.scope,locals := mainNs,globals := mainNs,cells := [],code := .ref 13,frame := some 14 }
noncomputable def hB : List Stmt := behindTheImports PW
noncomputable def hTC : Code := .body hB hEnv
noncomputable def hp0 : Pos := ⟨0,0,0,0⟩
noncomputable def hp1 : Pos := ⟨59,0,59,8⟩
noncomputable def hp2 : Pos := ⟨60,0,65,24⟩
noncomputable def hp3 : Pos := ⟨201,0,221,83⟩
noncomputable def hTF : List Frame := [topFrame hp0]
noncomputable def hAnn : Option Value := some (.ref 6)
noncomputable def hC : Stmt := (hB[19]?).getD (.Pass hp0)
noncomputable def hA (w : World) (os : OsState) : Shared := ((topGo treeTable PW w 11 hAnn 12 ⟨boot_heap w.params,Array.mk [],boot_drawn,boot_toks,os⟩ (topStub PW)).map (·.1)).getD ⟨boot_heap w.params,Array.mk [],boot_drawn,boot_toks,os⟩
noncomputable def hS0 (w : World) (os : OsState) : SharedT := ⟨layT .nil 0 (hA w os).heap.objs.toList,(hA w os).heap.objs.size,(hA w os).heap.life,(hA w os).gens,(hA w os).drawn,(hA w os).toks,(hA w os).os⟩
theorem hR0 (w : World) (os : OsState) : topGo treeTable PW w 11 hAnn 12 ⟨boot_heap w.params,Array.mk [],boot_drawn,boot_toks,os⟩ (topStub PW) = some ((hS0 w os).abs,⟨denote treeTable hTC,hTC,hp0,hTF⟩) := by kernel_rfl
theorem hRb (w : World) (os : OsState) : segRunT treeTable PW w 11 hAnn 1 1 (hS0 w os) (blockOf hB hEnv hTC hp0 hTF) = some (.next,hS0 w os,hTC,hp0) := by kernel_rfl
noncomputable def hG1 (w : World) (os : OsState) := segRunT treeTable PW w 11 hAnn 1 494 (hS0 w os) (piecesOf (hB.take 19) hEnv hTC hp0 hTF)
noncomputable def hS1 (w : World) (os : OsState) : SharedT := ((hG1 w os).map (·.2.1)).getD (hS0 w os)
theorem hOf {o : Option (Flow × SharedT × Code × Pos)} {d : SharedT} {q : Pos} (h : o.map (fun r => (r.1,r.2.2)) = some (.next,hTC,q)) : o = some (.next,(o.map (·.2.1)).getD d,hTC,q) := by
  cases o with
  | none => cases h
  | some r => obtain ⟨f,s,c,p⟩ := r; cases h; rfl
theorem hR1 (w : World) (os : OsState) : (hG1 w os).map (fun r => (r.1,r.2.2)) = some (.next,hTC,hp1) := by kernel_rfl
noncomputable def hso (s : String) : Str := Str.ofString s
noncomputable def hti (n : Int) : Value := .int n 0
noncomputable def hde (P : Params) (k : Str) (j : Nat) (v : Value) : DictEntry := ⟨PyData.keyHash P k,.str k j,v⟩
noncomputable def hoF (c : Value) (l : List Value) : Obj := ⟨c,none,.fields l.toArray,#[]⟩
noncomputable def hoQ (l : List Value) : Obj := ⟨.type "tuple",none,.seq l.toArray 0,#[]⟩
noncomputable def hoD (l : List DictEntry) (n : Nat) : Obj := ⟨.type "dict",none,.dict l.toArray n,#[]⟩
noncomputable def hiS : Stmt := match hC with
  | .ClassDef _ _ _ (s :: _) _ _ _ _ _ _ _ => s
  | s => s
noncomputable def hiF (g : Addr) (pm cd : Value) : FuncData := { name := nameOfS hiS,qualname := hso "CasFail.__init__",params := argsOf hiS,body := .stmts (bodyOf hiS),scope := scopeOf hiS,globals := g,closure := [],defaults := .none,kwdefaults := .none,pyModule := pm,code := cd }
noncomputable def hnew (P : Params) : List Obj := [hoQ [.type "Exception"],hoF (.type "builtin_function_or_method") [.builtin "type.__prepare__",.type "type"],
  hoD [hde P (hso "__module__") 324 (.str (hso "cas.errors") 315),hde P (hso "__qualname__") 326 (.str (hso "CasFail") 325),hde P (hso "__firstlineno__") 328 (.int 60 327),hde P (hso "__init__") 337 (.ref 130),hde P (hso "__static_attributes__") 340 (.ref 131)] 5,
  hoQ [],hoF .none [hti 62,hti 4,.ref 129],
  hoF (.type "code") [.str (hso "CasFail") 319,.str (hso "CasFail") 320,.str (hso "/claim/cut.py") 321,hti 60,hti 0,hti 0,hti 0,hti 0,.ref 120,.bool false,hti 181,.ref 121,.none,.none,.none,.none,.int 322 0,hti 60,.str (hso "/claim/cut.py") 323],
  ⟨.type "frame",none,.plain,#[some (.ref 122),some (.ref 3),some (.ref 119),none,some (.str (hso "cas.errors") 315),none,some (.ref 0)]⟩,
  hoQ [],hoF .none [],hoQ [.str (hso "self") 332,.str (hso "kind") 333,.str (hso "text") 334],hoQ [],
  ⟨.none,none,.func (hiF 0 .none .none),#[]⟩,
  hoF (.type "code") [.str (hso "__init__") 329,.str (hso "CasFail.__init__") 330,.str (hso "/claim/cut.py") 331,hti 62,hti 3,hti 0,hti 0,hti 3,.ref 124,.bool true,hti 181,.ref 125,.none,.ref 126,.ref 127,.ref 128,.int 335 0,hti 62,.str (hso "/claim/cut.py") 336],
  ⟨.type "function",none,.func (hiF 3 (.str (hso "cas.errors") 315) (.ref 129)),#[]⟩,
  hoQ [.str (hso "kind") 338,.str (hso "text") 339],
  hoD [hde P (hso "__module__") 324 (.str (hso "cas.errors") 315),hde P (hso "__firstlineno__") 328 (.int 60 327),hde P (hso "__init__") 337 (.ref 130),hde P (hso "__static_attributes__") 340 (.ref 131),hde P (hso "__weakref__") 342 (.ref 134),hde P (hso "__doc__") 343 .none] 3,
  ⟨.type "type",none,.cls { name := hso "CasFail",bases := [.type "Exception"],mro := [.ref 133,.type "Exception",.type "BaseException",.type "object"],ns := 132,qualname := hso "CasFail" },#[some (.ref 117),none,some (.str (hso "CasFail") 317),some (.str (hso "CasFail") 325),some (.builtin "Exception.__new__"),some (.bool true)]⟩,
  hoF (.type "getset_descriptor") [.str (hso "__weakref__") 341,.ref 133,.builtin "ExceptionGroup.__weakref__",.none],
  hoF (.type "super") [.ref 133,.ref 133,.ref 133],hoF (.type "builtin_function_or_method") [.builtin "object.__init_subclass__",.ref 133]]
noncomputable def haE (e : DictEntry) : Obj → Obj
  | ⟨c,d,.dict es n,s⟩ => ⟨c,d,.dict (es.push e) (n + 1),s⟩
  | o => o
noncomputable def haF (l : List Value) : Obj → Obj
  | ⟨c,d,.fields vs,s⟩ => ⟨c,d,.fields (vs ++ l.toArray),s⟩
  | o => o
noncomputable def hS2 (w : World) (os : OsState) : SharedT := match hS1 w os with
  | ⟨T,n,life,gens,drawn,_,o⟩ => ⟨layT (((T.set 2 (fun _ => ⟨.none,none,.dict #[hde w.params (hso "type.__subclasses__.Exception.0") 344 (hti 133),hde w.params (hso "type.__subclasses__.Exception.n") 345 (hti 1)] 2,#[]⟩)).set 3
      (haE (hde w.params (hso "CasFail") 347 (.ref 133)))).set 12 (haF [hti 60,hti 0,.ref 122])) 117 (hnew w.params),n + 20,life,gens,drawn,348,o⟩
theorem hR2 (w : World) (os : OsState) : segRunT treeTable PW w 11 hAnn 1 231 (hS1 w os) (piecesOf [hC] hEnv hTC hp1 hTF) = some (.next,hS2 w os,hTC,hp2) := by kernel_rfl
noncomputable def hG3 (w : World) (os : OsState) := segRunT treeTable PW w 11 hAnn 1 806 (hS2 w os) (piecesOf (hB.drop 20) hEnv hTC hp2 hTF)
noncomputable def hS3 (w : World) (os : OsState) : SharedT := ((hG3 w os).map (·.2.1)).getD (hS0 w os)
noncomputable def hXt (s : Shared) : Bool := xlAt vw [] s && recOk (RowW.records PySem.Challenge.rw_xm0092_01.row.toRowW) s
noncomputable def hLk (P : Params) (s : SharedT) : Bool := staticsOk [] (boot_heap P) s.abs.heap && namesBound PW s.abs.heap && gensDone s.abs && laidKept (boot_heap P) s.abs.heap
theorem hR3 (w : World) (os : OsState) : (hG3 w os).map (fun r => (r.1,r.2.2,hLk w.params r.2.1,openSeen vw [] [] hXt true r.2.1.abs)) = some (.next,(hTC,hp3),true,openGood vw []) := by kernel_rfl
theorem hOf3 {β : Type} {o : Option (Flow × SharedT × Code × Pos)} {d : SharedT} {q : Pos} {F : SharedT → Bool} {G : SharedT → β} {g : β} (h : o.map (fun r => (r.1,r.2.2,F r.2.1,G r.2.1)) = some (.next,(hTC,q),true,g)) :
    o = some (.next,(o.map (·.2.1)).getD d,hTC,q) ∧ F ((o.map (·.2.1)).getD d) = true ∧ G ((o.map (·.2.1)).getD d) = g := by
  cases o with
  | none => cases h
  | some r =>
    obtain ⟨f,s,c,p⟩ := r
    injection h with h
    injection h with h1 h
    injection h with h2 h
    injection h with h3 h4
    injection h2 with h5 h6
    subst h1 h5 h6
    exact ⟨rfl,h3,h4⟩
theorem hAll (w : World) (os : OsState) : hG3 w os = some (.next,hS3 w os,hTC,hp3) ∧ hLk w.params (hS3 w os) = true ∧ openSeen vw [] [] hXt true (hS3 w os).abs = openGood vw [] := by
  unfold hS3
  exact hOf3 (o := hG3 w os) (d := hS0 w os) (q := hp3) (F := hLk w.params) (G := fun s => openSeen vw [] [] hXt true s.abs) (g := openGood vw []) (hR3 w os)
theorem hR4 (w : World) (os : OsState) : topRun treeTable PW w 11 hAnn 2 (hS3 w os).abs ⟨doneF .next,hTC,hp3,hTF⟩ = some (hS3 w os).abs := by kernel_rfl
theorem hRun (w : World) (os : OsState) : topRun treeTable PW w 11 hAnn (12 + (1 + (494 + (231 + (806 + 2))))) ⟨boot_heap w.params,Array.mk [],boot_drawn,boot_toks,os⟩ (topStub PW) = some (hS3 w os).abs := by
  refine go_top (hR0 w os) ?_
  refine piece_block (segRun_of (hRb w os)) ?_
  have h1 : hG1 w os = some (.next,hS1 w os,hTC,hp1) := hOf (hR1 w os)
  have h3 := (hAll w os).1
  have e : hB = hB.take 19 ++ ([hC] ++ (hB.drop 20 ++ [])) := by rfl
  rw [show restOf hB hEnv hTC hp0 [topFrame hp0] = restOf (hB.take 19 ++ ([hC] ++ (hB.drop 20 ++ []))) hEnv hTC hp0 [topFrame hp0] from congrArg (fun l => restOf l hEnv hTC hp0 [topFrame hp0]) e]
  exact piece_app (segRun_of h1) (piece_app (segRun_of (hR2 w os)) (piece_app (segRun_of h3) (piece_nil (hR4 w os))))
theorem hLeft {S : World → OsState → SharedT} {α : Type} {Xt : Shared → Bool} {Yf : Shared → α} {Ya : World → α} {N M : Nat} (le : M ≤ N) (h6 : 600 ≤ M) (e : opening PW = plainProg PW.main.scope.names) (f : ∀ s,fenceModules? PW s = some s)
    (size : ∀ P : Params,((boot_heap P).isNs mainGlobals,(boot_heap P).objs.size,(boot_heap P).nsMap mainGlobals "__annotations__") = (true,11,hAnn))
    (run : ∀ w os,topRun treeTable PW w 11 hAnn M ⟨boot_heap w.params,Array.mk [],boot_drawn,boot_toks,os⟩ (topStub PW) = some (S w os).abs)
    (look1 : ∀ w os,hLk w.params (S w os) = true) (look2 : ∀ w os,openSeen vw [] [] Xt true (S w os).abs = openGood vw []) (look3 : ∀ w os,Yf (S w os).abs = Ya w) : LeftO PW vw [] Xt Yf Ya N := fun w => by
  obtain ⟨⟨h,gs,d,k,os⟩,a,b⟩ := Option.map_eq_some_iff.mp (boot_open (p := PW) (N := N) e (Nat.ble_eq_true_of_le (Nat.le_trans h6 le)) f w)
  obtain ⟨rfl,rfl,rfl,rfl⟩ : h = boot_heap w.params ∧ gs = Array.mk [] ∧ d = boot_drawn ∧ k = boot_toks := by simpa using b
  obtain ⟨z1,z2,z3⟩ : _ ∧ _ ∧ _ := by simpa only [Prod.mk.injEq] using size w.params
  have r := topRun_mono (N - M) _ _ _ _ (run w os)
  rw [Nat.add_sub_cancel' le] at r
  have l1 := look1 w os
  unfold hLk at l1
  have t : topFrom treeTable PW w N ⟨boot_heap w.params,Array.mk [],boot_drawn,boot_toks,os⟩ = some (S w os).abs := by
    unfold topFrom
    dsimp only
    rw [z1,z2,z3,r]
    exact congrArg (fun b : Bool => match b with | true => some (S w os).abs | false => none) l1
  unfold openEnds
  rw [a]
  show (topFrom treeTable PW w N _).map _ = _
  rw [t]
  exact congrArg some (Prod.ext (look2 w os) (look3 w os))
theorem left : LeftO PySem.Challenge.pw_xm0092_01 vw [] (fun s => xlAt vw [] s && recOk (RowW.records PySem.Challenge.rw_xm0092_01.row.toRowW) s) Hook.none.obs Hook.none.val 3182 :=
  hLeft (M := 12 + (1 + (494 + (231 + (806 + 2))))) (by decide) (by decide) (by kernel_rfl) (fun s => by kernel_rfl) (fun P => by kernel_rfl) hRun (fun w os => (hAll w os).2.1) (fun w os => (hAll w os).2.2) (fun _ _ => rfl)
theorem hd1 : namesResolve PW = true := by decide +kernel
theorem hd2 : noRoadLSs { strict := false,foot := none,bare := (["vars","dir","locals"] : List Str).filter (readsOut PW PW.main.body) } PW.main.body = true := by decide +kernel
theorem hd3 : namesMeet PW PW.main.body (fun _ n => attrL n) = true := by decide +kernel
theorem hAnd {a b c d e f : Bool} (ha : a = true) (hb : b = true) (hc : c = true) (hd : d = true) (he : e = true) (hf : f = true) : (a && b && c && d && e && f) = true := by rw [ha,hb,hc,hd,he,hf]; rfl
theorem hd4 : looksOpen PW = true := hAnd (by decide +kernel) (by decide +kernel) hd1 (by decide +kernel) hd2 hd3
theorem hd5 : PySem.Challenge.rw_xm0092_01.row.wellSaid = true := by
  unfold OpenRow.wellSaid OpenRow.partSaid
  rw [show looksOpen PySem.Challenge.rw_xm0092_01.row.prog = true from hd4]
  decide +kernel
theorem law_said : PySem.Challenge.rw_xm0092_01.wellSaid = true := by
  unfold OpenLaw.wellSaid
  rw [hd5]
  decide +kernel
end Mine
end
section
open PySem PySem.W PyProof.Rows PySem.Calls
set_option maxRecDepth 100000
set_option maxHeartbeats 400000
namespace Mine
theorem fn_gcd {P : Pk} (M : Miss P) (D : Def P 1 (Str.ofString "gcd")) : Fn P 1 (Str.ofString "gcd") d_gcd :=
  fn_def (argn := [Str.ofString "a",Str.ofString "b"]) (ctx := n_gcd) D (fun doc pm an cdv ct vals hv => by
    obtain ⟨v0,v1,rfl⟩ := len2 hv
    rfl)
    (fun x hx n => by
    simp only [List.mem_cons,List.not_mem_nil,or_false] at hx
    rcases hx with rfl | rfl <;> first | exact .inl rfl | exact .inr ⟨rfl,rfl⟩) rfl rfl rfl (by decide) rfl fun L a doc pm an cdv ct =>
  (ex_cons (ex_swap2 (b₁ := false) (b₂ := false) (by decide) rfl (ev_bi1 (bn_abs M rfl) (ev_local rfl rfl rfl) rfl bi_abs) (ev_bi1 (bn_abs M rfl) (ev_local rfl rfl rfl) rfl bi_abs) (fun _ => rfl) (fun _ => rfl) rfl (.inl rfl) rfl (.inl rfl) rfl rfl)
  (ex_cons (ex_while (ts_cmp (ev_local rfl rfl rfl) ev_int oc_ne rfl)
  (ex_one (ex_swap2 (b₁ := false) (b₂ := false) (by decide) rfl (ev_local rfl rfl rfl) (ev_bin (ev_local rfl rfl rfl) (ev_local rfl rfl rfl) op_mod) (fun _ => rfl) (fun _ => rfl) rfl (.inl rfl) rfl (.inl rfl) rfl rfl)))
  (ex_one (ex_ret (ev_local rfl rfl rfl)))))
theorem fn_gcd_all {P : Pk} (M : Miss P) (fn_gcd : Fn P 1 (Str.ofString "gcd") d_gcd) (D : Def P 2 (Str.ofString "gcd_all")) : Fn P 2 (Str.ofString "gcd_all") d_gcd_all :=
  fn_def (argn := [Str.ofString "numbers"]) (ctx := n_gcd_all) D (fun doc pm an cdv ct vals hv => by
    obtain ⟨v0,rfl⟩ := len1 hv
    rfl)
    (fun x hx n => by
    simp only [List.mem_cons,List.not_mem_nil,or_false] at hx
    rcases hx with rfl <;> first | exact .inl rfl | exact .inr ⟨rfl,rfl⟩) rfl rfl rfl (by decide) rfl fun L a doc pm an cdv ct =>
  (ex_cons (ex_asg rfl (.inl rfl) ev_int rfl)
  (ex_cons (ex_for (TgtOk.one _ _) rfl (allN ⟨⟨rfl,(.inl rfl)⟩,trivial⟩) (it_name (ev_local rfl rfl rfl))
  (ex_one (ex_asg rfl (.inl rfl) (ev_def fn_gcd (by decide) rfl rfl (evl_cons (ev_local rfl rfl rfl) (evl_cons (ev_local rfl rfl rfl) evl_nil rfl) rfl) rfl) rfl)) (fun _ => rfl))
  (ex_one (ex_ret (ev_local rfl rfl rfl)))))
theorem fn_ztrim {P : Pk} (M : Miss P) (D : Def P 4 (Str.ofString "ztrim")) : Fn P 1 (Str.ofString "ztrim") d_ztrim :=
  fn_def (argn := [Str.ofString "row"]) (ctx := n_ztrim) D (fun doc pm an cdv ct vals hv => by
    obtain ⟨v0,rfl⟩ := len1 hv
    rfl)
    (fun x hx n => by
    simp only [List.mem_cons,List.not_mem_nil,or_false] at hx
    rcases hx with rfl <;> first | exact .inl rfl | exact .inr ⟨rfl,rfl⟩) rfl rfl rfl (by decide) rfl fun L a doc pm an cdv ct =>
  (ex_cons (ex_asg rfl (.inl rfl) (ev_bi1 (bn_len M rfl) (ev_local rfl rfl rfl) rfl bi_len) rfl)
  (ex_cons (ex_while (ts_bool (tsl_and (ts_cmp (ev_local rfl rfl rfl) ev_int oc_gt rfl) (tsl_and1 (ts_cmp (ev_idx (ev_local rfl rfl rfl) (ev_bin (ev_local rfl rfl rfl) ev_int op_sub) (subOk fun _ _ => rfl)) ev_int oc_eq rfl))))
  (ex_one (ex_aug rfl rfl ev_int oi_sub)))
  (ex_one (ex_ret (ev_ty1 (bn_list M rfl) (ev_sliceTo (ev_local rfl rfl rfl) (ev_local rfl rfl rfl) (subOkS fun _ _ => rfl)) rfl ty_list)))))
theorem fn_zdegree {P : Pk} (M : Miss P) (D : Def P 5 (Str.ofString "zdegree")) : Fn P 1 (Str.ofString "zdegree") d_zdegree :=
  fn_def (argn := [Str.ofString "p"]) (ctx := n_zdegree) D (fun doc pm an cdv ct vals hv => by
    obtain ⟨v0,rfl⟩ := len1 hv
    rfl)
    (fun x hx n => by
    simp only [List.mem_cons,List.not_mem_nil,or_false] at hx
    rcases hx with rfl <;> first | exact .inl rfl | exact .inr ⟨rfl,rfl⟩) rfl rfl rfl (by decide) rfl fun L a doc pm an cdv ct =>
  (ex_one (ex_ret (ev_bin (ev_bi1 (bn_len M rfl) (ev_local rfl rfl rfl) rfl bi_len) ev_int op_sub)))
theorem fn_zlead {P : Pk} (M : Miss P) (D : Def P 6 (Str.ofString "zlead")) : Fn P 1 (Str.ofString "zlead") d_zlead :=
  fn_def (argn := [Str.ofString "p"]) (ctx := n_zlead) D (fun doc pm an cdv ct vals hv => by
    obtain ⟨v0,rfl⟩ := len1 hv
    rfl)
    (fun x hx n => by
    simp only [List.mem_cons,List.not_mem_nil,or_false] at hx
    rcases hx with rfl <;> first | exact .inl rfl | exact .inr ⟨rfl,rfl⟩) rfl rfl rfl (by decide) rfl fun L a doc pm an cdv ct =>
  (ex_one (ex_ret (ev_if (ts_cmp (ev_bi1 (bn_len M rfl) (ev_local rfl rfl rfl) rfl bi_len) ev_int oc_gt rfl) (ev_idx (ev_local rfl rfl rfl) (ev_una ev_int op_neg) (subOk fun _ _ => rfl)) ev_int)))
theorem fn_zadd {P : Pk} (M : Miss P) (fn_ztrim : Fn P 1 (Str.ofString "ztrim") d_ztrim) (D : Def P 7 (Str.ofString "zadd")) : Fn P 2 (Str.ofString "zadd") d_zadd :=
  fn_def (argn := [Str.ofString "a",Str.ofString "b"]) (ctx := n_zadd) D (fun doc pm an cdv ct vals hv => by
    obtain ⟨v0,v1,rfl⟩ := len2 hv
    rfl)
    (fun x hx n => by
    simp only [List.mem_cons,List.not_mem_nil,or_false] at hx
    rcases hx with rfl | rfl <;> first | exact .inl rfl | exact .inr ⟨rfl,rfl⟩) rfl rfl rfl (by decide) rfl fun L a doc pm an cdv ct =>
  (ex_cons (ex_asg rfl (.inl rfl) (ev_bi2 (bn_max M rfl) (ev_bi1 (bn_len M rfl) (ev_cell rfl rfl rfl rfl) rfl bi_len) (ev_bi1 (bn_len M rfl) (ev_cell rfl rfl rfl rfl) rfl bi_len) rfl rfl bi_max2) rfl)
  (ex_one (ex_ret (ev_def fn_ztrim (by decide) rfl rfl (evl_cons (ev_comp (compOk (frn := [Str.ofString "a",Str.ofString "b"]) rfl ⟨rfl,rfl,trivial⟩ rfl rfl rfl rfl rfl rfl ⟨⟨rfl,rfl,fun _ => rfl⟩,⟨rfl,rfl,fun _ => rfl⟩,trivial⟩) (TgtOk.one _ _) (it_range1 (bn_range M rfl) (ev_local rfl rfl rfl) rfl) take1_len (fun C => (.inl ⟨rfl,rfl⟩)) (fun C => (ev_bin (ev_if (ts_cmp (ev_local rfl rfl rfl) (ev_bi1 (bn_len M rfl) (ev_cell rfl rfl rfl rfl) rfl bi_len) oc_lt rfl) (ev_idx (ev_cell rfl rfl rfl rfl) (ev_local rfl rfl rfl) (subOk fun _ _ => rfl)) ev_int) (ev_if (ts_cmp (ev_local rfl rfl rfl) (ev_bi1 (bn_len M rfl) (ev_cell rfl rfl rfl rfl) rfl bi_len) oc_lt rfl) (ev_idx (ev_cell rfl rfl rfl rfl) (ev_local rfl rfl rfl) (subOk fun _ _ => rfl)) ev_int) op_add)) (fun _ => rfl)) evl_nil rfl) rfl))))
theorem fn_zneg {P : Pk} (M : Miss P) (D : Def P 8 (Str.ofString "zneg")) : Fn P 1 (Str.ofString "zneg") d_zneg :=
  fn_def (argn := [Str.ofString "p"]) (ctx := n_zneg) D (fun doc pm an cdv ct vals hv => by
    obtain ⟨v0,rfl⟩ := len1 hv
    rfl)
    (fun x hx n => by
    simp only [List.mem_cons,List.not_mem_nil,or_false] at hx
    rcases hx with rfl <;> first | exact .inl rfl | exact .inr ⟨rfl,rfl⟩) rfl rfl rfl (by decide) rfl fun L a doc pm an cdv ct =>
  (ex_one (ex_ret (ev_comp (compOk (frn := []) rfl trivial rfl rfl rfl rfl rfl rfl trivial) (TgtOk.one _ _) (it_name (ev_local rfl rfl rfl)) take1_len (fun C => (.inl ⟨rfl,rfl⟩)) (fun C => (ev_una (ev_local rfl rfl rfl) op_neg)) (fun _ => rfl))))
theorem fn_zsub {P : Pk} (M : Miss P) (fn_zadd : Fn P 2 (Str.ofString "zadd") d_zadd) (fn_zneg : Fn P 1 (Str.ofString "zneg") d_zneg) (D : Def P 9 (Str.ofString "zsub")) : Fn P 3 (Str.ofString "zsub") d_zsub :=
  fn_def (argn := [Str.ofString "a",Str.ofString "b"]) (ctx := n_zsub) D (fun doc pm an cdv ct vals hv => by
    obtain ⟨v0,v1,rfl⟩ := len2 hv
    rfl)
    (fun x hx n => by
    simp only [List.mem_cons,List.not_mem_nil,or_false] at hx
    rcases hx with rfl | rfl <;> first | exact .inl rfl | exact .inr ⟨rfl,rfl⟩) rfl rfl rfl (by decide) rfl fun L a doc pm an cdv ct =>
  (ex_one (ex_ret (ev_def fn_zadd (by decide) rfl rfl (evl_cons (ev_local rfl rfl rfl) (evl_cons (ev_def fn_zneg (by decide) rfl rfl (evl_cons (ev_local rfl rfl rfl) evl_nil rfl) rfl) evl_nil rfl) rfl) rfl)))
theorem fn_zscale {P : Pk} (M : Miss P) (D : Def P 10 (Str.ofString "zscale")) : Fn P 1 (Str.ofString "zscale") d_zscale :=
  fn_def (argn := [Str.ofString "p",Str.ofString "k"]) (ctx := n_zscale) D (fun doc pm an cdv ct vals hv => by
    obtain ⟨v0,v1,rfl⟩ := len2 hv
    rfl)
    (fun x hx n => by
    simp only [List.mem_cons,List.not_mem_nil,or_false] at hx
    rcases hx with rfl | rfl <;> first | exact .inl rfl | exact .inr ⟨rfl,rfl⟩) rfl rfl rfl (by decide) rfl fun L a doc pm an cdv ct =>
  (ex_one (ex_ret (ev_if (ts_cmp (ev_cell rfl rfl rfl rfl) ev_int oc_ne rfl) (ev_comp (compOk (frn := [Str.ofString "k"]) rfl ⟨rfl,trivial⟩ rfl rfl rfl rfl rfl rfl ⟨⟨rfl,rfl,fun _ => rfl⟩,trivial⟩) (TgtOk.one _ _) (it_name (ev_local rfl rfl rfl)) take1_len (fun C => (.inl ⟨rfl,rfl⟩)) (fun C => (ev_bin (ev_local rfl rfl rfl) (ev_cell rfl rfl rfl rfl) op_mul)) (fun _ => rfl)) (ev_list evl_nil (by decide)))))
theorem fn_zraise {P : Pk} (M : Miss P) (D : Def P 11 (Str.ofString "zraise")) : Fn P 1 (Str.ofString "zraise") d_zraise :=
  fn_def (argn := [Str.ofString "p",Str.ofString "many"]) (ctx := n_zraise) D (fun doc pm an cdv ct vals hv => by
    obtain ⟨v0,v1,rfl⟩ := len2 hv
    rfl)
    (fun x hx n => by
    simp only [List.mem_cons,List.not_mem_nil,or_false] at hx
    rcases hx with rfl | rfl <;> first | exact .inl rfl | exact .inr ⟨rfl,rfl⟩) rfl rfl rfl (by decide) rfl fun L a doc pm an cdv ct =>
  (ex_one (ex_ret (ev_if (ts_cmp (ev_bi1 (bn_len M rfl) (ev_local rfl rfl rfl) rfl bi_len) ev_int oc_gt rfl) (ev_bin (ev_bin (ev_list (evl_cons ev_int evl_nil rfl) (by decide)) (ev_local rfl rfl rfl) op_mul) (ev_ty1 (bn_list M rfl) (ev_local rfl rfl rfl) rfl ty_list) op_add) (ev_list evl_nil (by decide)))))
theorem fn_zmul {P : Pk} (M : Miss P) (D : Def P 12 (Str.ofString "zmul")) : Fn P 1 (Str.ofString "zmul") d_zmul :=
  fn_def (argn := [Str.ofString "a",Str.ofString "b"]) (ctx := n_zmul) D (fun doc pm an cdv ct vals hv => by
    obtain ⟨v0,v1,rfl⟩ := len2 hv
    rfl)
    (fun x hx n => by
    simp only [List.mem_cons,List.not_mem_nil,or_false] at hx
    rcases hx with rfl | rfl <;> first | exact .inl rfl | exact .inr ⟨rfl,rfl⟩) rfl rfl rfl (by decide) rfl fun L a doc pm an cdv ct =>
  (ex_cons (ex_if (ts_bool (tsl_or (ts_cmp (ev_bi1 (bn_len M rfl) (ev_local rfl rfl rfl) rfl bi_len) ev_int oc_eq rfl) (tsl_or1 (ts_cmp (ev_bi1 (bn_len M rfl) (ev_local rfl rfl rfl) rfl bi_len) ev_int oc_eq rfl))))
  (ex_one (ex_ret (ev_list evl_nil (by decide))))
  ex_nil)
  (ex_cons (ex_own rfl (.inl rfl) (evf_rep (ev_list (evl_cons ev_int evl_nil rfl) (by decide)) (ev_bin (ev_bin (ev_bi1 (bn_len M rfl) (ev_local rfl rfl rfl) rfl bi_len) (ev_bi1 (bn_len M rfl) (ev_local rfl rfl rfl) rfl bi_len) op_add) ev_int op_sub)) rfl)
  (ex_cons (ex_for (TgtOk.two _ _ _ _ _ _ (by decide)) rfl (allN ⟨⟨rfl,(.inl rfl)⟩,⟨rfl,(.inl rfl)⟩,trivial⟩) (it_enum (bn_enumerate M rfl) (ev_local rfl rfl rfl) rfl)
  (ex_one (ex_if (ts_cmp (ev_local rfl rfl rfl) ev_int oc_ne rfl)
   (ex_one (ex_for (TgtOk.two _ _ _ _ _ _ (by decide)) rfl (allN ⟨⟨rfl,(.inl rfl)⟩,⟨rfl,(.inl rfl)⟩,trivial⟩) (it_enum (bn_enumerate M rfl) (ev_local rfl rfl rfl) rfl)
    (ex_one (ex_augI rfl rfl rfl (ev_bin (ev_local rfl rfl rfl) (ev_local rfl rfl rfl) op_add) (ev_bin (ev_local rfl rfl rfl) (ev_local rfl rfl rfl) op_mul) oi_add (fun _ _ _ => rfl))) (fun _ => rfl)))
   ex_nil)) (fun _ => rfl))
  (ex_frz (ex_one (ex_ret (ev_local rfl rfl rfl)))))))
theorem fn_zcontent {P : Pk} (M : Miss P) (fn_gcd_all : Fn P 2 (Str.ofString "gcd_all") d_gcd_all) (D : Def P 13 (Str.ofString "zcontent")) : Fn P 3 (Str.ofString "zcontent") d_zcontent :=
  fn_def (argn := [Str.ofString "p"]) (ctx := n_zcontent) D (fun doc pm an cdv ct vals hv => by
    obtain ⟨v0,rfl⟩ := len1 hv
    rfl)
    (fun x hx n => by
    simp only [List.mem_cons,List.not_mem_nil,or_false] at hx
    rcases hx with rfl <;> first | exact .inl rfl | exact .inr ⟨rfl,rfl⟩) rfl rfl rfl (by decide) rfl fun L a doc pm an cdv ct =>
  (ex_one (ex_ret (ev_def fn_gcd_all (by decide) rfl rfl (evl_cons (ev_local rfl rfl rfl) evl_nil rfl) rfl)))
theorem fn_zdivided {P : Pk} (M : Miss P) (D : Def P 14 (Str.ofString "zdivided")) : Fn P 1 (Str.ofString "zdivided") d_zdivided :=
  fn_def (argn := [Str.ofString "p",Str.ofString "k"]) (ctx := n_zdivided) D (fun doc pm an cdv ct vals hv => by
    obtain ⟨v0,v1,rfl⟩ := len2 hv
    rfl)
    (fun x hx n => by
    simp only [List.mem_cons,List.not_mem_nil,or_false] at hx
    rcases hx with rfl | rfl <;> first | exact .inl rfl | exact .inr ⟨rfl,rfl⟩) rfl rfl rfl (by decide) rfl fun L a doc pm an cdv ct =>
  (ex_one (ex_ret (ev_comp (compOk (frn := [Str.ofString "k"]) rfl ⟨rfl,trivial⟩ rfl rfl rfl rfl rfl rfl ⟨⟨rfl,rfl,fun _ => rfl⟩,trivial⟩) (TgtOk.one _ _) (it_name (ev_local rfl rfl rfl)) take1_len (fun C => (.inl ⟨rfl,rfl⟩)) (fun C => (ev_bin (ev_local rfl rfl rfl) (ev_cell rfl rfl rfl rfl) op_fdiv)) (fun _ => rfl))))
theorem fn_zprimitive {P : Pk} (M : Miss P) (fn_zcontent : Fn P 3 (Str.ofString "zcontent") d_zcontent) (fn_zdivided : Fn P 1 (Str.ofString "zdivided") d_zdivided) (D : Def P 15 (Str.ofString "zprimitive")) : Fn P 4 (Str.ofString "zprimitive") d_zprimitive :=
  fn_def (argn := [Str.ofString "p"]) (ctx := n_zprimitive) D (fun doc pm an cdv ct vals hv => by
    obtain ⟨v0,rfl⟩ := len1 hv
    rfl)
    (fun x hx n => by
    simp only [List.mem_cons,List.not_mem_nil,or_false] at hx
    rcases hx with rfl <;> first | exact .inl rfl | exact .inr ⟨rfl,rfl⟩) rfl rfl rfl (by decide) rfl fun L a doc pm an cdv ct =>
  (ex_cons (ex_if (ts_cmp (ev_bi1 (bn_len M rfl) (ev_local rfl rfl rfl) rfl bi_len) ev_int oc_eq rfl)
  (ex_one (ex_ret (ev_list evl_nil (by decide))))
  ex_nil)
  (ex_cons (ex_asg rfl (.inl rfl) (ev_def fn_zcontent (by decide) rfl rfl (evl_cons (ev_local rfl rfl rfl) evl_nil rfl) rfl) rfl)
  (ex_one (ex_ret (ev_def fn_zdivided (by decide) rfl rfl (evl_cons (ev_local rfl rfl rfl) (evl_cons (ev_if (ts_cmp (ev_idx (ev_local rfl rfl rfl) (ev_una ev_int op_neg) (subOk fun _ _ => rfl)) ev_int oc_gt rfl) (ev_local rfl rfl rfl) (ev_una (ev_local rfl rfl rfl) op_neg)) evl_nil rfl) rfl) rfl)))))
theorem fn_zderive {P : Pk} (M : Miss P) (D : Def P 16 (Str.ofString "zderive")) : Fn P 1 (Str.ofString "zderive") d_zderive :=
  fn_def (argn := [Str.ofString "p"]) (ctx := n_zderive) D (fun doc pm an cdv ct vals hv => by
    obtain ⟨v0,rfl⟩ := len1 hv
    rfl)
    (fun x hx n => by
    simp only [List.mem_cons,List.not_mem_nil,or_false] at hx
    rcases hx with rfl <;> first | exact .inl rfl | exact .inr ⟨rfl,rfl⟩) rfl rfl rfl (by decide) rfl fun L a doc pm an cdv ct =>
  (ex_one (ex_ret (ev_sliceFrom (ev_comp (compOk (frn := []) rfl trivial rfl rfl rfl rfl rfl rfl trivial) (TgtOk.two _ _ _ _ _ _ (by decide)) (it_enum (bn_enumerate M rfl) (ev_local rfl rfl rfl) rfl) take2_len (fun C => (.inl ⟨rfl,rfl⟩)) (fun C => (ev_bin (ev_local rfl rfl rfl) (ev_local rfl rfl rfl) op_mul)) (fun _ => rfl)) ev_int (subOkS fun _ _ => rfl))))
theorem fn_zshift {P : Pk} (M : Miss P) (D : Def P 17 (Str.ofString "zshift")) : Fn P 1 (Str.ofString "zshift") d_zshift :=
  fn_def (argn := [Str.ofString "p",Str.ofString "n"]) (ctx := n_zshift) D (fun doc pm an cdv ct vals hv => by
    obtain ⟨v0,v1,rfl⟩ := len2 hv
    rfl)
    (fun x hx n => by
    simp only [List.mem_cons,List.not_mem_nil,or_false] at hx
    rcases hx with rfl | rfl <;> first | exact .inl rfl | exact .inr ⟨rfl,rfl⟩) rfl rfl rfl (by decide) rfl fun L a doc pm an cdv ct =>
  (ex_cons (ex_own rfl (.inl rfl) (evf_copy (bn_list M rfl) (ev_local rfl rfl rfl) rfl) rfl)
  (ex_cons (ex_for (TgtOk.one _ _) rfl (allN ⟨⟨rfl,(.inl rfl)⟩,trivial⟩) (it_range1 (bn_range M rfl) (ev_bin (ev_bi1 (bn_len M rfl) (ev_local rfl rfl rfl) rfl bi_len) ev_int op_sub) rfl)
  (ex_one (ex_for (TgtOk.one _ _) rfl (allN ⟨⟨rfl,(.inl rfl)⟩,trivial⟩) (it_range3 (bn_range M rfl) (ev_bin (ev_bi1 (bn_len M rfl) (ev_local rfl rfl rfl) rfl bi_len) ev_int op_sub) (ev_bin (ev_local rfl rfl rfl) ev_int op_sub) (ev_una ev_int op_neg) rfl rfl rfl)
   (ex_one (ex_augI rfl rfl rfl (ev_local rfl rfl rfl) (ev_bin (ev_local rfl rfl rfl) (ev_idxO rfl rfl rfl (ev_bin (ev_local rfl rfl rfl) ev_int op_add) (subOk fun _ _ => rfl)) op_mul) oi_add (fun _ _ _ => rfl))) (fun _ => rfl))) (fun _ => rfl))
  (ex_frz (ex_one (ex_ret (ev_local rfl rfl rfl))))))
theorem fn_check_bottom {P : Pk} (M : Miss P) (D : Def P 21 (Str.ofString "check_bottom")) : Fn P 1 (Str.ofString "check_bottom") d_check_bottom :=
  fn_def (argn := [Str.ofString "p"]) (ctx := n_check_bottom) D (fun doc pm an cdv ct vals hv => by
    obtain ⟨v0,rfl⟩ := len1 hv
    rfl)
    (fun x hx n => by
    simp only [List.mem_cons,List.not_mem_nil,or_false] at hx
    rcases hx with rfl <;> first | exact .inl rfl | exact .inr ⟨rfl,rfl⟩) rfl rfl rfl (by decide) rfl fun L a doc pm an cdv ct =>
  (ex_one (ex_if (ts_cmp (ev_bi1 (bn_len M rfl) (ev_local rfl rfl rfl) rfl bi_len) ev_int oc_eq rfl)
  (ex_one ex_fail)
  ex_nil))
theorem fn_zexact {P : Pk} (M : Miss P) (fn_check_bottom : Fn P 1 (Str.ofString "check_bottom") d_check_bottom) (fn_zsub : Fn P 3 (Str.ofString "zsub") d_zsub) (fn_ztrim : Fn P 1 (Str.ofString "ztrim") d_ztrim) (fn_zraise : Fn P 1 (Str.ofString "zraise") d_zraise) (fn_zscale : Fn P 1 (Str.ofString "zscale") d_zscale) (D : Def P 22 (Str.ofString "zexact")) : Fn P 4 (Str.ofString "zexact") d_zexact :=
  fn_def (argn := [Str.ofString "a",Str.ofString "b"]) (ctx := n_zexact) D (fun doc pm an cdv ct vals hv => by
    obtain ⟨v0,v1,rfl⟩ := len2 hv
    rfl)
    (fun x hx n => by
    simp only [List.mem_cons,List.not_mem_nil,or_false] at hx
    rcases hx with rfl | rfl <;> first | exact .inl rfl | exact .inr ⟨rfl,rfl⟩) rfl rfl rfl (by decide) rfl fun L a doc pm an cdv ct =>
  (ex_cons (ex_drop (ev_def fn_check_bottom (by decide) rfl rfl (evl_cons (ev_local rfl rfl rfl) evl_nil rfl) rfl) rfl rfl)
  (ex_cons (ex_swap2 (b₁ := false) (b₂ := true) (by decide) rfl (ev_ty1 (bn_list M rfl) (ev_local rfl rfl rfl) rfl ty_list) (evf_rep (ev_list (evl_cons ev_int evl_nil rfl) (by decide)) (ev_bi2 (bn_max M rfl) ev_int (ev_bin (ev_bin (ev_bi1 (bn_len M rfl) (ev_local rfl rfl rfl) rfl bi_len) (ev_bi1 (bn_len M rfl) (ev_local rfl rfl rfl) rfl bi_len) op_sub) ev_int op_add) rfl rfl bi_max2)) (fun _ => rfl) (fun _ => rfl) rfl (.inl rfl) rfl (.inl rfl) rfl rfl)
  (ex_cons (ex_while (ts_cmp (ev_bi1 (bn_len M rfl) (ev_local rfl rfl rfl) rfl bi_len) (ev_bi1 (bn_len M rfl) (ev_local rfl rfl rfl) rfl bi_len) oc_ge rfl)
  (ex_cons (ex_if (ts_cmp (ev_bin (ev_idx (ev_local rfl rfl rfl) (ev_una ev_int op_neg) (subOk fun _ _ => rfl)) (ev_idx (ev_local rfl rfl rfl) (ev_una ev_int op_neg) (subOk fun _ _ => rfl)) op_mod) ev_int oc_ne rfl)
   (ex_one (ex_ret ev_none))
   ex_nil)
   (ex_cons (ex_swap2 (b₁ := false) (b₂ := false) (by decide) rfl (ev_bin (ev_idx (ev_local rfl rfl rfl) (ev_una ev_int op_neg) (subOk fun _ _ => rfl)) (ev_idx (ev_local rfl rfl rfl) (ev_una ev_int op_neg) (subOk fun _ _ => rfl)) op_fdiv) (ev_bin (ev_bi1 (bn_len M rfl) (ev_local rfl rfl rfl) rfl bi_len) (ev_bi1 (bn_len M rfl) (ev_local rfl rfl rfl) rfl bi_len) op_sub) (fun _ => rfl) (fun _ => rfl) rfl (.inl rfl) rfl (.inl rfl) rfl rfl)
   (ex_cons (ex_set rfl rfl rfl (ev_local rfl rfl rfl) (ev_local rfl rfl rfl) rfl)
   (ex_one (ex_asg rfl (.inl rfl) (ev_def fn_zsub (by decide) rfl rfl (evl_cons (ev_local rfl rfl rfl) (evl_cons (ev_def fn_zraise (by decide) rfl rfl (evl_cons (ev_def fn_zscale (by decide) rfl rfl (evl_cons (ev_local rfl rfl rfl) (evl_cons (ev_local rfl rfl rfl) evl_nil rfl) rfl) rfl) (evl_cons (ev_local rfl rfl rfl) evl_nil rfl) rfl) rfl) evl_nil rfl) rfl) rfl) rfl))))))
  (ex_frz (ex_one (ex_ret (ev_if (ts_cmp (ev_bi1 (bn_len M rfl) (ev_local rfl rfl rfl) rfl bi_len) ev_int oc_eq rfl) (ev_def fn_ztrim (by decide) rfl rfl (evl_cons (ev_local rfl rfl rfl) evl_nil rfl) rfl) ev_none)))))))
theorem fn_pseudo {P : Pk} (M : Miss P) (fn_check_bottom : Fn P 1 (Str.ofString "check_bottom") d_check_bottom) (fn_zlead : Fn P 1 (Str.ofString "zlead") d_zlead) (fn_zsub : Fn P 3 (Str.ofString "zsub") d_zsub) (fn_zscale : Fn P 1 (Str.ofString "zscale") d_zscale) (fn_zraise : Fn P 1 (Str.ofString "zraise") d_zraise) (D : Def P 23 (Str.ofString "pseudo")) : Fn P 4 (Str.ofString "pseudo") d_pseudo :=
  fn_def (argn := [Str.ofString "a",Str.ofString "b"]) (ctx := n_pseudo) D (fun doc pm an cdv ct vals hv => by
    obtain ⟨v0,v1,rfl⟩ := len2 hv
    rfl)
    (fun x hx n => by
    simp only [List.mem_cons,List.not_mem_nil,or_false] at hx
    rcases hx with rfl | rfl <;> first | exact .inl rfl | exact .inr ⟨rfl,rfl⟩) rfl rfl rfl (by decide) rfl fun L a doc pm an cdv ct =>
  (ex_cons (ex_drop (ev_def fn_check_bottom (by decide) rfl rfl (evl_cons (ev_local rfl rfl rfl) evl_nil rfl) rfl) rfl rfl)
  (ex_cons (ex_asg rfl (.inl rfl) (ev_bi2 (bn_max M rfl) ev_int (ev_bin (ev_bin (ev_bi1 (bn_len M rfl) (ev_local rfl rfl rfl) rfl bi_len) (ev_bi1 (bn_len M rfl) (ev_local rfl rfl rfl) rfl bi_len) op_sub) ev_int op_add) rfl rfl bi_max2) rfl)
  (ex_cons (ex_tupN (is := [3,4,5,6]) (xs := [(_,_),(_,_),(_,_),(_,_)]) (evl_cons (ev_ty1 (bn_list M rfl) (ev_local rfl rfl rfl) rfl ty_list) (evl_cons (ev_list evl_nil (by decide)) (evl_cons (ev_local rfl rfl rfl) (evl_cons (ev_def fn_zlead (by decide) rfl rfl (evl_cons (ev_local rfl rfl rfl) evl_nil rfl) rfl) evl_nil rfl) rfl) rfl) rfl) rfl (by decide) (allNm ⟨⟨rfl,(.inl rfl)⟩,⟨rfl,(.inl rfl)⟩,⟨rfl,(.inl rfl)⟩,⟨rfl,(.inl rfl)⟩,trivial⟩) rfl rfl)
  (ex_cons (ex_while (ts_cmp (ev_bi1 (bn_len M rfl) (ev_local rfl rfl rfl) rfl bi_len) (ev_bi1 (bn_len M rfl) (ev_local rfl rfl rfl) rfl bi_len) oc_ge rfl)
  (ex_cons (ex_swap2 (b₁ := false) (b₂ := false) (by decide) rfl (ev_idx (ev_local rfl rfl rfl) (ev_una ev_int op_neg) (subOk fun _ _ => rfl)) (ev_bin (ev_bi1 (bn_len M rfl) (ev_local rfl rfl rfl) rfl bi_len) (ev_bi1 (bn_len M rfl) (ev_local rfl rfl rfl) rfl bi_len) op_sub) (fun _ => rfl) (fun _ => rfl) rfl (.inl rfl) rfl (.inl rfl) rfl rfl)
   (ex_cons (ex_asg rfl (.inl rfl) (ev_def fn_zsub (by decide) rfl rfl (evl_cons (ev_def fn_zscale (by decide) rfl rfl (evl_cons (ev_local rfl rfl rfl) (evl_cons (ev_local rfl rfl rfl) evl_nil rfl) rfl) rfl) (evl_cons (ev_def fn_zraise (by decide) rfl rfl (evl_cons (ev_list (evl_cons (ev_una (ev_local rfl rfl rfl) op_neg) evl_nil rfl) (by decide)) (evl_cons (ev_local rfl rfl rfl) evl_nil rfl) rfl) rfl) evl_nil rfl) rfl) rfl) rfl)
   (ex_cons (ex_asg rfl (.inl rfl) (ev_def fn_zsub (by decide) rfl rfl (evl_cons (ev_def fn_zscale (by decide) rfl rfl (evl_cons (ev_local rfl rfl rfl) (evl_cons (ev_local rfl rfl rfl) evl_nil rfl) rfl) rfl) (evl_cons (ev_def fn_zraise (by decide) rfl rfl (evl_cons (ev_def fn_zscale (by decide) rfl rfl (evl_cons (ev_local rfl rfl rfl) (evl_cons (ev_local rfl rfl rfl) evl_nil rfl) rfl) rfl) (evl_cons (ev_local rfl rfl rfl) evl_nil rfl) rfl) rfl) evl_nil rfl) rfl) rfl) rfl)
   (ex_one (ex_aug rfl rfl ev_int oi_sub))))))
  (ex_cons (ex_asg rfl (.inl rfl) (ev_bin (ev_local rfl rfl rfl) (ev_local rfl rfl rfl) op_pow) rfl)
  (ex_one (ex_ret (ev_tuple (evl_cons (ev_def fn_zscale (by decide) rfl rfl (evl_cons (ev_local rfl rfl rfl) (evl_cons (ev_local rfl rfl rfl) evl_nil rfl) rfl) rfl) (evl_cons (ev_def fn_zscale (by decide) rfl rfl (evl_cons (ev_local rfl rfl rfl) (evl_cons (ev_local rfl rfl rfl) evl_nil rfl) rfl) rfl) (evl_cons (ev_local rfl rfl rfl) evl_nil rfl) rfl) rfl) (by decide)))))))))
theorem fn_zpseudo_rest {P : Pk} (M : Miss P) (fn_pseudo : Fn P 4 (Str.ofString "pseudo") d_pseudo) (D : Def P 24 (Str.ofString "zpseudo_rest")) : Fn P 5 (Str.ofString "zpseudo_rest") d_zpseudo_rest :=
  fn_def (argn := [Str.ofString "a",Str.ofString "b"]) (ctx := n_zpseudo_rest) D (fun doc pm an cdv ct vals hv => by
    obtain ⟨v0,v1,rfl⟩ := len2 hv
    rfl)
    (fun x hx n => by
    simp only [List.mem_cons,List.not_mem_nil,or_false] at hx
    rcases hx with rfl | rfl <;> first | exact .inl rfl | exact .inr ⟨rfl,rfl⟩) rfl rfl rfl (by decide) rfl fun L a doc pm an cdv ct =>
  (ex_one (ex_ret (ev_idx (ev_def fn_pseudo (by decide) rfl rfl (evl_cons (ev_local rfl rfl rfl) (evl_cons (ev_local rfl rfl rfl) evl_nil rfl) rfl) rfl) ev_int (subOk fun _ _ => rfl))))
theorem fn_next_height {P : Pk} (M : Miss P) (D : Def P 26 (Str.ofString "next_height")) : Fn P 1 (Str.ofString "next_height") d_next_height :=
  fn_def (argn := [Str.ofString "front",Str.ofString "step",Str.ofString "height"]) (ctx := n_next_height) D (fun doc pm an cdv ct vals hv => by
    obtain ⟨v0,v1,v2,rfl⟩ := len3 hv
    rfl)
    (fun x hx n => by
    simp only [List.mem_cons,List.not_mem_nil,or_false] at hx
    rcases hx with rfl | rfl | rfl <;> first | exact .inl rfl | exact .inr ⟨rfl,rfl⟩) rfl rfl rfl (by decide) rfl fun L a doc pm an cdv ct =>
  (ex_cons (ex_if (ts_cmp (ev_local rfl rfl rfl) ev_int oc_eq rfl)
  (ex_one (ex_ret (ev_local rfl rfl rfl)))
  ex_nil)
  (ex_one (ex_ret (ev_bin (ev_bin (ev_local rfl rfl rfl) (ev_local rfl rfl rfl) op_pow) (ev_bin (ev_local rfl rfl rfl) (ev_bin (ev_local rfl rfl rfl) ev_int op_sub) op_pow) op_fdiv))))
theorem fn_subresultants {P : Pk} (M : Miss P) (fn_zpseudo_rest : Fn P 5 (Str.ofString "zpseudo_rest") d_zpseudo_rest) (fn_zlead : Fn P 1 (Str.ofString "zlead") d_zlead) (fn_next_height : Fn P 1 (Str.ofString "next_height") d_next_height) (fn_zdivided : Fn P 1 (Str.ofString "zdivided") d_zdivided) (D : Def P 27 (Str.ofString "subresultants")) : Fn P 6 (Str.ofString "subresultants") d_subresultants :=
  fn_def (argn := [Str.ofString "a",Str.ofString "b"]) (ctx := n_subresultants) D (fun doc pm an cdv ct vals hv => by
    obtain ⟨v0,v1,rfl⟩ := len2 hv
    rfl)
    (fun x hx n => by
    simp only [List.mem_cons,List.not_mem_nil,or_false] at hx
    rcases hx with rfl | rfl <;> first | exact .inl rfl | exact .inr ⟨rfl,rfl⟩) rfl rfl rfl (by decide) rfl fun L a doc pm an cdv ct =>
  (ex_cons (ex_if (ts_cmp (ev_bi1 (bn_len M rfl) (ev_local rfl rfl rfl) rfl bi_len) (ev_bi1 (bn_len M rfl) (ev_local rfl rfl rfl) rfl bi_len) oc_lt rfl)
  (ex_one (ex_swap2 (b₁ := false) (b₂ := false) (by decide) rfl (ev_local rfl rfl rfl) (ev_local rfl rfl rfl) (fun _ => rfl) (fun _ => rfl) rfl (.inl rfl) rfl (.inl rfl) rfl rfl))
  ex_nil)
  (ex_cons (ex_swap3 (b₁ := true) (by decide) (by decide) (by decide) (evf_list (evl_cons (ev_ty1 (bn_list M rfl) (ev_local rfl rfl rfl) rfl ty_list) (evl_cons (ev_ty1 (bn_list M rfl) (ev_local rfl rfl rfl) rfl ty_list) evl_nil rfl) rfl) (by decide)) ev_int ev_int (fun _ => rfl) (fun _ => rfl) (fun _ => rfl) rfl (.inl rfl) rfl (.inl rfl) rfl (.inl rfl) rfl rfl)
  (ex_cons (ex_while (ts_cmp (ev_bi1 (bn_len M rfl) (ev_local rfl rfl rfl) rfl bi_len) ev_int oc_gt rfl)
  (ex_cons (ex_asg rfl (.inl rfl) (ev_bin (ev_bi1 (bn_len M rfl) (ev_local rfl rfl rfl) rfl bi_len) (ev_bi1 (bn_len M rfl) (ev_local rfl rfl rfl) rfl bi_len) op_sub) rfl)
   (ex_cons (ex_asg rfl (.inl rfl) (ev_def fn_zpseudo_rest (by decide) rfl rfl (evl_cons (ev_local rfl rfl rfl) (evl_cons (ev_local rfl rfl rfl) evl_nil rfl) rfl) rfl) rfl)
   (ex_cons (ex_if (ts_cmp (ev_bi1 (bn_len M rfl) (ev_local rfl rfl rfl) rfl bi_len) ev_int oc_eq rfl)
   (ex_frz (ex_one (ex_ret (ev_local rfl rfl rfl))))
   ex_nil)
   (ex_cons (ex_swap2 (b₁ := false) (b₂ := false) (by decide) rfl (ev_local rfl rfl rfl) (ev_def fn_zdivided (by decide) rfl rfl (evl_cons (ev_local rfl rfl rfl) (evl_cons (ev_bin (ev_local rfl rfl rfl) (ev_bin (ev_local rfl rfl rfl) (ev_local rfl rfl rfl) op_pow) op_mul) evl_nil rfl) rfl) rfl) (fun _ => rfl) (fun _ => rfl) rfl (.inl rfl) rfl (.inl rfl) rfl rfl)
   (ex_cons (ex_app rfl rfl rfl (ev_local rfl rfl rfl) rfl rfl rfl rfl rfl rfl)
   (ex_cons (ex_asg rfl (.inl rfl) (ev_def fn_zlead (by decide) rfl rfl (evl_cons (ev_local rfl rfl rfl) evl_nil rfl) rfl) rfl)
   (ex_one (ex_asg rfl (.inl rfl) (ev_def fn_next_height (by decide) rfl rfl (evl_cons (ev_local rfl rfl rfl) (evl_cons (ev_local rfl rfl rfl) (evl_cons (ev_local rfl rfl rfl) evl_nil rfl) rfl) rfl) rfl) rfl)))))))))
  (ex_frz (ex_one (ex_ret (ev_local rfl rfl rfl)))))))
theorem fn_zgcd {P : Pk} (M : Miss P) (fn_gcd : Fn P 1 (Str.ofString "gcd") d_gcd) (fn_zscale : Fn P 1 (Str.ofString "zscale") d_zscale) (fn_zcontent : Fn P 3 (Str.ofString "zcontent") d_zcontent) (fn_subresultants : Fn P 6 (Str.ofString "subresultants") d_subresultants) (fn_zprimitive : Fn P 4 (Str.ofString "zprimitive") d_zprimitive) (D : Def P 28 (Str.ofString "zgcd")) : Fn P 7 (Str.ofString "zgcd") d_zgcd :=
  fn_def (argn := [Str.ofString "a",Str.ofString "b"]) (ctx := n_zgcd) D (fun doc pm an cdv ct vals hv => by
    obtain ⟨v0,v1,rfl⟩ := len2 hv
    rfl)
    (fun x hx n => by
    simp only [List.mem_cons,List.not_mem_nil,or_false] at hx
    rcases hx with rfl | rfl <;> first | exact .inl rfl | exact .inr ⟨rfl,rfl⟩) rfl rfl rfl (by decide) rfl fun L a doc pm an cdv ct =>
  (ex_cons (ex_if (ts_bool (tsl_or (ts_cmp (ev_bi1 (bn_len M rfl) (ev_local rfl rfl rfl) rfl bi_len) ev_int oc_eq rfl) (tsl_or1 (ts_cmp (ev_bi1 (bn_len M rfl) (ev_local rfl rfl rfl) rfl bi_len) ev_int oc_eq rfl))))
  (ex_cons (ex_asg rfl (.inl rfl) (ev_if (ts_cmp (ev_bi1 (bn_len M rfl) (ev_local rfl rfl rfl) rfl bi_len) ev_int oc_eq rfl) (ev_local rfl rfl rfl) (ev_local rfl rfl rfl)) rfl)
   (ex_one (ex_ret (ev_def fn_zscale (by decide) rfl rfl (evl_cons (ev_def fn_zprimitive (by decide) rfl rfl (evl_cons (ev_local rfl rfl rfl) evl_nil rfl) rfl) (evl_cons (ev_def fn_zcontent (by decide) rfl rfl (evl_cons (ev_local rfl rfl rfl) evl_nil rfl) rfl) evl_nil rfl) rfl) rfl))))
  ex_nil)
  (ex_cons (ex_asg rfl (.inl rfl) (ev_def fn_gcd (by decide) rfl rfl (evl_cons (ev_def fn_zcontent (by decide) rfl rfl (evl_cons (ev_local rfl rfl rfl) evl_nil rfl) rfl) (evl_cons (ev_def fn_zcontent (by decide) rfl rfl (evl_cons (ev_local rfl rfl rfl) evl_nil rfl) rfl) evl_nil rfl) rfl) rfl) rfl)
  (ex_cons (ex_asg rfl (.inl rfl) (ev_idx (ev_def fn_subresultants (by decide) rfl rfl (evl_cons (ev_def fn_zprimitive (by decide) rfl rfl (evl_cons (ev_local rfl rfl rfl) evl_nil rfl) rfl) (evl_cons (ev_def fn_zprimitive (by decide) rfl rfl (evl_cons (ev_local rfl rfl rfl) evl_nil rfl) rfl) evl_nil rfl) rfl) rfl) (ev_una ev_int op_neg) (subOk fun _ _ => rfl)) rfl)
  (ex_one (ex_ret (ev_if (ts_cmp (ev_bi1 (bn_len M rfl) (ev_local rfl rfl rfl) rfl bi_len) ev_int oc_gt rfl) (ev_def fn_zscale (by decide) rfl rfl (evl_cons (ev_def fn_zprimitive (by decide) rfl rfl (evl_cons (ev_local rfl rfl rfl) evl_nil rfl) rfl) (evl_cons (ev_local rfl rfl rfl) evl_nil rfl) rfl) rfl) (ev_list (evl_cons (ev_local rfl rfl rfl) evl_nil rfl) (by decide))))))))
theorem fn_sign_of {P : Pk} (M : Miss P) (D : Def P 30 (Str.ofString "sign_of")) : Fn P 1 (Str.ofString "sign_of") d_sign_of :=
  fn_def (argn := [Str.ofString "number"]) (ctx := n_sign_of) D (fun doc pm an cdv ct vals hv => by
    obtain ⟨v0,rfl⟩ := len1 hv
    rfl)
    (fun x hx n => by
    simp only [List.mem_cons,List.not_mem_nil,or_false] at hx
    rcases hx with rfl <;> first | exact .inl rfl | exact .inr ⟨rfl,rfl⟩) rfl rfl rfl (by decide) rfl fun L a doc pm an cdv ct =>
  (ex_one (ex_ret (ev_bin (ev_cmp (ev_local rfl rfl rfl) ev_int oc_gt rfl) (ev_cmp (ev_local rfl rfl rfl) ev_int oc_lt rfl) op_sub)))
theorem fn_value_sign {P : Pk} (M : Miss P) (fn_sign_of : Fn P 1 (Str.ofString "sign_of") d_sign_of) (D : Def P 31 (Str.ofString "value_sign")) : Fn P 2 (Str.ofString "value_sign") d_value_sign :=
  fn_def (argn := [Str.ofString "p",Str.ofString "x"]) (ctx := n_value_sign) D (fun doc pm an cdv ct vals hv => by
    obtain ⟨v0,v1,rfl⟩ := len2 hv
    rfl)
    (fun x hx n => by
    simp only [List.mem_cons,List.not_mem_nil,or_false] at hx
    rcases hx with rfl | rfl <;> first | exact .inl rfl | exact .inr ⟨rfl,rfl⟩) rfl rfl rfl (by decide) rfl fun L a doc pm an cdv ct =>
  (ex_cons (ex_unp (is := [2,3]) (xs := [(_,_),(_,_)]) (ev_local rfl rfl rfl) rfl (allNm ⟨⟨rfl,(.inl rfl)⟩,⟨rfl,(.inl rfl)⟩,trivial⟩) rfl rfl)
  (ex_cons (ex_tupN (is := [4,5]) (xs := [(_,_),(_,_)]) (evl_cons ev_int (evl_cons ev_int evl_nil rfl) rfl) rfl (by decide) (allNm ⟨⟨rfl,(.inl rfl)⟩,⟨rfl,(.inl rfl)⟩,trivial⟩) rfl rfl)
  (ex_cons (ex_for (TgtOk.one _ _) rfl (allN ⟨⟨rfl,(.inl rfl)⟩,trivial⟩) (it_rev (bn_reversed M rfl) (ev_local rfl rfl rfl) rfl)
  (ex_cons (ex_asg rfl (.inl rfl) (ev_bin (ev_bin (ev_local rfl rfl rfl) (ev_local rfl rfl rfl) op_mul) (ev_bin (ev_local rfl rfl rfl) (ev_local rfl rfl rfl) op_mul) op_add) rfl)
   (ex_one (ex_asg rfl (.inl rfl) (ev_bin (ev_local rfl rfl rfl) (ev_local rfl rfl rfl) op_mul) rfl))) (fun _ => rfl))
  (ex_one (ex_ret (ev_def fn_sign_of (by decide) rfl rfl (evl_cons (ev_local rfl rfl rfl) evl_nil rfl) rfl))))))
theorem fn_end_sign {P : Pk} (M : Miss P) (fn_sign_of : Fn P 1 (Str.ofString "sign_of") d_sign_of) (fn_zlead : Fn P 1 (Str.ofString "zlead") d_zlead) (fn_zdegree : Fn P 1 (Str.ofString "zdegree") d_zdegree) (D : Def P 32 (Str.ofString "end_sign")) : Fn P 2 (Str.ofString "end_sign") d_end_sign :=
  fn_def (argn := [Str.ofString "p",Str.ofString "end"]) (ctx := n_end_sign) D (fun doc pm an cdv ct vals hv => by
    obtain ⟨v0,v1,rfl⟩ := len2 hv
    rfl)
    (fun x hx n => by
    simp only [List.mem_cons,List.not_mem_nil,or_false] at hx
    rcases hx with rfl | rfl <;> first | exact .inl rfl | exact .inr ⟨rfl,rfl⟩) rfl rfl rfl (by decide) rfl fun L a doc pm an cdv ct =>
  (ex_cons (ex_if (ts_cmp (ev_local rfl rfl rfl) (ev_list evl_nil (by decide)) oc_eq rfl)
  (ex_one (ex_ret ev_int))
  ex_nil)
  (ex_cons (ex_asg rfl (.inl rfl) (ev_def fn_sign_of (by decide) rfl rfl (evl_cons (ev_def fn_zlead (by decide) rfl rfl (evl_cons (ev_local rfl rfl rfl) evl_nil rfl) rfl) evl_nil rfl) rfl) rfl)
  (ex_one (ex_ret (ev_if (ts_bool (tsl_and (ts_cmp (ev_local rfl rfl rfl) ev_str oc_eq rfl) (tsl_and1 (ts_cmp (ev_bin (ev_def fn_zdegree (by decide) rfl rfl (evl_cons (ev_local rfl rfl rfl) evl_nil rfl) rfl) ev_int op_mod) ev_int oc_eq rfl)))) (ev_una (ev_local rfl rfl rfl) op_neg) (ev_local rfl rfl rfl))))))
theorem fn_sign_at {P : Pk} (M : Miss P) (fn_end_sign : Fn P 2 (Str.ofString "end_sign") d_end_sign) (fn_value_sign : Fn P 2 (Str.ofString "value_sign") d_value_sign) (D : Def P 33 (Str.ofString "sign_at")) : Fn P 3 (Str.ofString "sign_at") d_sign_at :=
  fn_def (argn := [Str.ofString "p",Str.ofString "x"]) (ctx := n_sign_at) D (fun doc pm an cdv ct vals hv => by
    obtain ⟨v0,v1,rfl⟩ := len2 hv
    rfl)
    (fun x hx n => by
    simp only [List.mem_cons,List.not_mem_nil,or_false] at hx
    rcases hx with rfl | rfl <;> first | exact .inl rfl | exact .inr ⟨rfl,rfl⟩) rfl rfl rfl (by decide) rfl fun L a doc pm an cdv ct =>
  (ex_one (ex_ret (ev_if (ts_val (ev_isStr (bn_isinstance M rfl) (bn_str M rfl) (ev_local rfl rfl rfl) rfl) (fun _ => rfl)) (ev_def fn_end_sign (by decide) rfl rfl (evl_cons (ev_local rfl rfl rfl) (evl_cons (ev_local rfl rfl rfl) evl_nil rfl) rfl) rfl) (ev_def fn_value_sign (by decide) rfl rfl (evl_cons (ev_local rfl rfl rfl) (evl_cons (ev_local rfl rfl rfl) evl_nil rfl) rfl) rfl))))
theorem fn_simple_part {P : Pk} (M : Miss P) (fn_zgcd : Fn P 7 (Str.ofString "zgcd") d_zgcd) (fn_zderive : Fn P 1 (Str.ofString "zderive") d_zderive) (fn_zexact : Fn P 4 (Str.ofString "zexact") d_zexact) (fn_zdegree : Fn P 1 (Str.ofString "zdegree") d_zdegree) (D : Def P 34 (Str.ofString "simple_part")) : Fn P 8 (Str.ofString "simple_part") d_simple_part :=
  fn_def (argn := [Str.ofString "f"]) (ctx := n_simple_part) D (fun doc pm an cdv ct vals hv => by
    obtain ⟨v0,rfl⟩ := len1 hv
    rfl)
    (fun x hx n => by
    simp only [List.mem_cons,List.not_mem_nil,or_false] at hx
    rcases hx with rfl <;> first | exact .inl rfl | exact .inr ⟨rfl,rfl⟩) rfl rfl rfl (by decide) rfl fun L a doc pm an cdv ct =>
  (ex_cons (ex_asg rfl (.inl rfl) (ev_def fn_zgcd (by decide) rfl rfl (evl_cons (ev_local rfl rfl rfl) (evl_cons (ev_def fn_zderive (by decide) rfl rfl (evl_cons (ev_local rfl rfl rfl) evl_nil rfl) rfl) evl_nil rfl) rfl) rfl) rfl)
  (ex_one (ex_ret (ev_if (ts_cmp (ev_def fn_zdegree (by decide) rfl rfl (evl_cons (ev_local rfl rfl rfl) evl_nil rfl) rfl) ev_int oc_gt rfl) (ev_def fn_zexact (by decide) rfl rfl (evl_cons (ev_local rfl rfl rfl) (evl_cons (ev_local rfl rfl rfl) evl_nil rfl) rfl) rfl) (ev_local rfl rfl rfl)))))
theorem fn_lessened {P : Pk} (M : Miss P) (fn_zcontent : Fn P 3 (Str.ofString "zcontent") d_zcontent) (D : Def P 35 (Str.ofString "lessened")) : Fn P 4 (Str.ofString "lessened") d_lessened :=
  fn_def (argn := [Str.ofString "p"]) (ctx := n_lessened) D (fun doc pm an cdv ct vals hv => by
    obtain ⟨v0,rfl⟩ := len1 hv
    rfl)
    (fun x hx n => by
    simp only [List.mem_cons,List.not_mem_nil,or_false] at hx
    rcases hx with rfl <;> first | exact .inl rfl | exact .inr ⟨rfl,rfl⟩) rfl rfl rfl (by decide) rfl fun L a doc pm an cdv ct =>
  (ex_cons (ex_asg rfl (.inr ⟨rfl,_,rfl⟩) (ev_def fn_zcontent (by decide) rfl rfl (evl_cons (ev_local rfl rfl rfl) evl_nil rfl) rfl) rfl)
  (ex_one (ex_ret (ev_if (ts_cmp (ev_cell rfl rfl rfl rfl) ev_int oc_gt rfl) (ev_comp (compOk (frn := [Str.ofString "content"]) rfl ⟨rfl,trivial⟩ rfl rfl rfl rfl rfl rfl ⟨⟨rfl,rfl,fun _ => rfl⟩,trivial⟩) (TgtOk.one _ _) (it_name (ev_local rfl rfl rfl)) take1_len (fun C => (.inl ⟨rfl,rfl⟩)) (fun C => (ev_bin (ev_local rfl rfl rfl) (ev_cell rfl rfl rfl rfl) op_fdiv)) (fun _ => rfl)) (ev_local rfl rfl rfl)))))
theorem fn_next_of_row {P : Pk} (M : Miss P) (fn_pseudo : Fn P 4 (Str.ofString "pseudo") d_pseudo) (fn_lessened : Fn P 4 (Str.ofString "lessened") d_lessened) (fn_zneg : Fn P 1 (Str.ofString "zneg") d_zneg) (fn_zlead : Fn P 1 (Str.ofString "zlead") d_zlead) (D : Def P 36 (Str.ofString "next_of_row")) : Fn P 5 (Str.ofString "next_of_row") d_next_of_row :=
  fn_def (argn := [Str.ofString "a",Str.ofString "b"]) (ctx := n_next_of_row) D (fun doc pm an cdv ct vals hv => by
    obtain ⟨v0,v1,rfl⟩ := len2 hv
    rfl)
    (fun x hx n => by
    simp only [List.mem_cons,List.not_mem_nil,or_false] at hx
    rcases hx with rfl | rfl <;> first | exact .inl rfl | exact .inr ⟨rfl,rfl⟩) rfl rfl rfl (by decide) rfl fun L a doc pm an cdv ct =>
  (ex_cons (ex_unp (is := [2,3,4]) (xs := [(_,_),(_,_),(_,_)]) (ev_def fn_pseudo (by decide) rfl rfl (evl_cons (ev_local rfl rfl rfl) (evl_cons (ev_local rfl rfl rfl) evl_nil rfl) rfl) rfl) rfl (allNm ⟨⟨rfl,(.inl rfl)⟩,⟨rfl,(.inl rfl)⟩,⟨rfl,(.inl rfl)⟩,trivial⟩) rfl rfl)
  (ex_cons (ex_if (ts_bool (tsl_and (ts_cmp (ev_bin (ev_local rfl rfl rfl) ev_int op_mod) ev_int oc_eq rfl) (tsl_and1 (ts_cmp (ev_def fn_zlead (by decide) rfl rfl (evl_cons (ev_local rfl rfl rfl) evl_nil rfl) rfl) ev_int oc_lt rfl))))
  (ex_one (ex_ret (ev_def fn_lessened (by decide) rfl rfl (evl_cons (ev_local rfl rfl rfl) evl_nil rfl) rfl)))
  ex_nil)
  (ex_one (ex_ret (ev_def fn_lessened (by decide) rfl rfl (evl_cons (ev_def fn_zneg (by decide) rfl rfl (evl_cons (ev_local rfl rfl rfl) evl_nil rfl) rfl) evl_nil rfl) rfl)))))
theorem fn_sturm_row {P : Pk} (M : Miss P) (fn_zderive : Fn P 1 (Str.ofString "zderive") d_zderive) (fn_next_of_row : Fn P 5 (Str.ofString "next_of_row") d_next_of_row) (D : Def P 37 (Str.ofString "sturm_row")) : Fn P 6 (Str.ofString "sturm_row") d_sturm_row :=
  fn_def (argn := [Str.ofString "f"]) (ctx := n_sturm_row) D (fun doc pm an cdv ct vals hv => by
    obtain ⟨v0,rfl⟩ := len1 hv
    rfl)
    (fun x hx n => by
    simp only [List.mem_cons,List.not_mem_nil,or_false] at hx
    rcases hx with rfl <;> first | exact .inl rfl | exact .inr ⟨rfl,rfl⟩) rfl rfl rfl (by decide) rfl fun L a doc pm an cdv ct =>
  (ex_cons (ex_swap2 (b₁ := true) (b₂ := false) (by decide) rfl (evf_list (evl_cons (ev_local rfl rfl rfl) evl_nil rfl) (by decide)) (ev_def fn_zderive (by decide) rfl rfl (evl_cons (ev_local rfl rfl rfl) evl_nil rfl) rfl) (fun _ => rfl) (fun _ => rfl) rfl (.inl rfl) rfl (.inl rfl) rfl rfl)
  (ex_cons (ex_while (ts_cmp (ev_local rfl rfl rfl) (ev_list evl_nil (by decide)) oc_ne rfl)
  (ex_cons (ex_app rfl rfl rfl (ev_local rfl rfl rfl) rfl rfl rfl rfl rfl rfl)
   (ex_one (ex_asg rfl (.inl rfl) (ev_def fn_next_of_row (by decide) rfl rfl (evl_cons (ev_idxO rfl rfl rfl (ev_una ev_int op_neg) (subOk fun _ _ => rfl)) (evl_cons (ev_idxO rfl rfl rfl (ev_una ev_int op_neg) (subOk fun _ _ => rfl)) evl_nil rfl) rfl) rfl) rfl))))
  (ex_frz (ex_one (ex_ret (ev_local rfl rfl rfl))))))
theorem fn_changes_at {P : Pk} (M : Miss P) (fn_sign_at : Fn P 3 (Str.ofString "sign_at") d_sign_at) (D : Def P 38 (Str.ofString "changes_at")) : Fn P 4 (Str.ofString "changes_at") d_changes_at :=
  fn_def (argn := [Str.ofString "row",Str.ofString "x"]) (ctx := n_changes_at) D (fun doc pm an cdv ct vals hv => by
    obtain ⟨v0,v1,rfl⟩ := len2 hv
    rfl)
    (fun x hx n => by
    simp only [List.mem_cons,List.not_mem_nil,or_false] at hx
    rcases hx with rfl | rfl <;> first | exact .inl rfl | exact .inr ⟨rfl,rfl⟩) rfl rfl rfl (by decide) rfl fun L a doc pm an cdv ct =>
  (ex_cons (ex_asg rfl (.inr ⟨rfl,_,rfl⟩) (ev_comp (compOk (frn := [Str.ofString "x"]) rfl ⟨rfl,trivial⟩ rfl rfl rfl rfl rfl rfl ⟨⟨rfl,rfl,fun _ => rfl⟩,trivial⟩) (TgtOk.one _ _) (it_name (ev_local rfl rfl rfl)) take1_len (fun C => (.inl ⟨rfl,rfl⟩)) (fun C => (ev_def fn_sign_at (by decide) rfl rfl (evl_cons (ev_local rfl rfl rfl) (evl_cons (ev_cell rfl rfl rfl rfl) evl_nil rfl) rfl) rfl)) (fun _ => rfl)) rfl)
  (ex_cons (ex_asg rfl (.inr ⟨rfl,_,rfl⟩) (ev_comp (compOk (frn := []) rfl trivial rfl rfl rfl rfl rfl rfl trivial) (TgtOk.one _ _) (it_name (ev_cell rfl rfl rfl rfl)) take1_len (fun C => (.inr ⟨_,rfl,(ts_cmp (ev_local rfl rfl rfl) ev_int oc_ne rfl)⟩)) (fun C => (ev_local rfl rfl rfl)) (fun _ => rfl)) rfl)
  (ex_one (ex_ret (ev_bi1 (bn_len M rfl) (ev_comp (compOk (frn := [Str.ofString "signs"]) rfl ⟨rfl,trivial⟩ rfl rfl rfl rfl rfl rfl ⟨⟨rfl,rfl,fun _ => rfl⟩,trivial⟩) (TgtOk.one _ _) (it_range2 (bn_range M rfl) ev_int (ev_bi1 (bn_len M rfl) (ev_cell rfl rfl rfl rfl) rfl bi_len) rfl rfl) take1_len (fun C => (.inr ⟨_,rfl,(ts_cmp (ev_idx (ev_cell rfl rfl rfl rfl) (ev_local rfl rfl rfl) (subOk fun _ _ => rfl)) (ev_idx (ev_cell rfl rfl rfl rfl) (ev_bin (ev_local rfl rfl rfl) ev_int op_sub) (subOk fun _ _ => rfl)) oc_ne rfl)⟩)) (fun C => ev_int) (fun _ => rfl)) rfl bi_len)))))
theorem fn_count_by_row {P : Pk} (M : Miss P) (fn_changes_at : Fn P 4 (Str.ofString "changes_at") d_changes_at) (D : Def P 39 (Str.ofString "count_by_row")) : Fn P 5 (Str.ofString "count_by_row") d_count_by_row :=
  fn_def (argn := [Str.ofString "row",Str.ofString "low",Str.ofString "high"]) (ctx := n_count_by_row) D (fun doc pm an cdv ct vals hv => by
    obtain ⟨v0,v1,v2,rfl⟩ := len3 hv
    rfl)
    (fun x hx n => by
    simp only [List.mem_cons,List.not_mem_nil,or_false] at hx
    rcases hx with rfl | rfl | rfl <;> first | exact .inl rfl | exact .inr ⟨rfl,rfl⟩) rfl rfl rfl (by decide) rfl fun L a doc pm an cdv ct =>
  (ex_one (ex_ret (ev_bin (ev_def fn_changes_at (by decide) rfl rfl (evl_cons (ev_local rfl rfl rfl) (evl_cons (ev_local rfl rfl rfl) evl_nil rfl) rfl) rfl) (ev_def fn_changes_at (by decide) rfl rfl (evl_cons (ev_local rfl rfl rfl) (evl_cons (ev_local rfl rfl rfl) evl_nil rfl) rfl) rfl) op_sub)))
theorem fn_count_roots {P : Pk} (M : Miss P) (fn_count_by_row : Fn P 5 (Str.ofString "count_by_row") d_count_by_row) (fn_sturm_row : Fn P 6 (Str.ofString "sturm_row") d_sturm_row) (fn_simple_part : Fn P 8 (Str.ofString "simple_part") d_simple_part) (D : Def P 40 (Str.ofString "count_roots")) : Fn P 9 (Str.ofString "count_roots") d_count_roots :=
  fn_def (argn := [Str.ofString "f",Str.ofString "low",Str.ofString "high"]) (ctx := n_count_roots) D (fun doc pm an cdv ct vals hv => by
    obtain ⟨v0,v1,v2,rfl⟩ := len3 hv
    rfl)
    (fun x hx n => by
    simp only [List.mem_cons,List.not_mem_nil,or_false] at hx
    rcases hx with rfl | rfl | rfl <;> first | exact .inl rfl | exact .inr ⟨rfl,rfl⟩) rfl rfl rfl (by decide) rfl fun L a doc pm an cdv ct =>
  (ex_one (ex_ret (ev_def fn_count_by_row (by decide) rfl rfl (evl_cons (ev_def fn_sturm_row (by decide) rfl rfl (evl_cons (ev_def fn_simple_part (by decide) rfl rfl (evl_cons (ev_local rfl rfl rfl) evl_nil rfl) rfl) evl_nil rfl) rfl) (evl_cons (ev_local rfl rfl rfl) (evl_cons (ev_local rfl rfl rfl) evl_nil rfl) rfl) rfl) rfl)))
theorem fn_law_choices {P : Pk} (M : Miss P) (D : Def P 44 (Str.ofString "_law_choices")) : Fn P 1 (Str.ofString "_law_choices") d_law_choices :=
  fn_def (argn := [Str.ofString "n"]) (ctx := n_law_choices) D (fun doc pm an cdv ct vals hv => by
    obtain ⟨v0,rfl⟩ := len1 hv
    rfl)
    (fun x hx n => by
    simp only [List.mem_cons,List.not_mem_nil,or_false] at hx
    rcases hx with rfl <;> first | exact .inl rfl | exact .inr ⟨rfl,rfl⟩) rfl rfl rfl (by decide) rfl fun L a doc pm an cdv ct =>
  (ex_cons (ex_asg rfl (.inr ⟨rfl,_,rfl⟩) (ev_list (evl_cons ev_int evl_nil rfl) (by decide)) rfl)
  (ex_cons (ex_for (TgtOk.one _ _) rfl (allN ⟨⟨rfl,(.inl rfl)⟩,trivial⟩) (it_range1 (bn_range M rfl) (ev_local rfl rfl rfl) rfl)
  (ex_one (ex_asg rfl (.inr ⟨rfl,_,rfl⟩) (ev_bin (ev_bin (ev_list (evl_cons ev_int evl_nil rfl) (by decide)) (ev_comp (compOk (frn := [Str.ofString "row"]) rfl ⟨rfl,trivial⟩ rfl rfl rfl rfl rfl rfl ⟨⟨rfl,rfl,fun _ => rfl⟩,trivial⟩) (TgtOk.one _ _) (it_range1 (bn_range M rfl) (ev_bin (ev_bi1 (bn_len M rfl) (ev_cell rfl rfl rfl rfl) rfl bi_len) ev_int op_sub) rfl) take1_len (fun C => (.inl ⟨rfl,rfl⟩)) (fun C => (ev_bin (ev_idx (ev_cell rfl rfl rfl rfl) (ev_local rfl rfl rfl) (subOk fun _ _ => rfl)) (ev_idx (ev_cell rfl rfl rfl rfl) (ev_bin (ev_local rfl rfl rfl) ev_int op_add) (subOk fun _ _ => rfl)) op_add)) (fun _ => rfl)) op_add) (ev_list (evl_cons ev_int evl_nil rfl) (by decide)) op_add) rfl)) (fun _ => rfl))
  (ex_one (ex_ret (ev_cell rfl rfl rfl rfl)))))
theorem fn_law_row {P : Pk} (M : Miss P) (fn_law_choices : Fn P 1 (Str.ofString "_law_choices") d_law_choices) (D : Def P 45 (Str.ofString "_law_row")) : Fn P 2 (Str.ofString "_law_row") d_law_row :=
  fn_def (argn := [Str.ofString "f"]) (ctx := n_law_row) D (fun doc pm an cdv ct vals hv => by
    obtain ⟨v0,rfl⟩ := len1 hv
    rfl)
    (fun x hx n => by
    simp only [List.mem_cons,List.not_mem_nil,or_false] at hx
    rcases hx with rfl <;> first | exact .inl rfl | exact .inr ⟨rfl,rfl⟩) rfl rfl rfl (by decide) rfl fun L a doc pm an cdv ct =>
  (ex_cons (ex_swap2 (b₁ := false) (b₂ := true) (by decide) rfl (ev_bin (ev_bi1 (bn_len M rfl) (ev_local rfl rfl rfl) rfl bi_len) ev_int op_sub) (evf_rep (ev_list (evl_cons ev_int evl_nil rfl) (by decide)) (ev_bi1 (bn_len M rfl) (ev_local rfl rfl rfl) rfl bi_len)) (fun _ => rfl) (fun _ => rfl) rfl (.inl rfl) rfl (.inl rfl) rfl rfl)
  (ex_cons (ex_for (TgtOk.two _ _ _ _ _ _ (by decide)) rfl (allN ⟨⟨rfl,(.inl rfl)⟩,⟨rfl,(.inl rfl)⟩,trivial⟩) (it_enum (bn_enumerate M rfl) (ev_local rfl rfl rfl) rfl)
  (ex_one (ex_for (TgtOk.two _ _ _ _ _ _ (by decide)) rfl (allN ⟨⟨rfl,(.inl rfl)⟩,⟨rfl,(.inl rfl)⟩,trivial⟩) (it_enum (bn_enumerate M rfl) (ev_def fn_law_choices (by decide) rfl rfl (evl_cons (ev_bin (ev_local rfl rfl rfl) (ev_local rfl rfl rfl) op_sub) evl_nil rfl) rfl) rfl)
   (ex_one (ex_set rfl rfl rfl (ev_bin (ev_local rfl rfl rfl) (ev_local rfl rfl rfl) op_add) (ev_bin (ev_idxO rfl rfl rfl (ev_bin (ev_local rfl rfl rfl) (ev_local rfl rfl rfl) op_add) (subOk fun _ _ => rfl)) (ev_bin (ev_local rfl rfl rfl) (ev_local rfl rfl rfl) op_mul) op_add) rfl)) (fun _ => rfl))) (fun _ => rfl))
  (ex_frz (ex_one (ex_ret (ev_local rfl rfl rfl))))))
theorem fn_law_changes {P : Pk} (M : Miss P) (D : Def P 46 (Str.ofString "_law_changes")) : Fn P 1 (Str.ofString "_law_changes") d_law_changes :=
  fn_def (argn := [Str.ofString "row"]) (ctx := n_law_changes) D (fun doc pm an cdv ct vals hv => by
    obtain ⟨v0,rfl⟩ := len1 hv
    rfl)
    (fun x hx n => by
    simp only [List.mem_cons,List.not_mem_nil,or_false] at hx
    rcases hx with rfl <;> first | exact .inl rfl | exact .inr ⟨rfl,rfl⟩) rfl rfl rfl (by decide) rfl fun L a doc pm an cdv ct =>
  (ex_cons (ex_asg rfl (.inr ⟨rfl,_,rfl⟩) (ev_comp (compOk (frn := []) rfl trivial rfl rfl rfl rfl rfl rfl trivial) (TgtOk.one _ _) (it_name (ev_local rfl rfl rfl)) take1_len (fun C => (.inr ⟨_,rfl,(ts_cmp (ev_local rfl rfl rfl) ev_int oc_ne rfl)⟩)) (fun C => (ev_local rfl rfl rfl)) (fun _ => rfl)) rfl)
  (ex_one (ex_ret (ev_bi1 (bn_len M rfl) (ev_comp (compOk (frn := [Str.ofString "kept"]) rfl ⟨rfl,trivial⟩ rfl rfl rfl rfl rfl rfl ⟨⟨rfl,rfl,fun _ => rfl⟩,trivial⟩) (TgtOk.one _ _) (it_range1 (bn_range M rfl) (ev_bin (ev_bi1 (bn_len M rfl) (ev_cell rfl rfl rfl rfl) rfl bi_len) ev_int op_sub) rfl) take1_len (fun C => (.inr ⟨_,rfl,(ts_cmp (ev_bin (ev_idx (ev_cell rfl rfl rfl rfl) (ev_local rfl rfl rfl) (subOk fun _ _ => rfl)) (ev_idx (ev_cell rfl rfl rfl rfl) (ev_bin (ev_local rfl rfl rfl) ev_int op_add) (subOk fun _ _ => rfl)) op_mul) ev_int oc_lt rfl)⟩)) (fun C => ev_int) (fun _ => rfl)) rfl bi_len))))
theorem fn_law_between {P : Pk} (M : Miss P) (fn_law_choices : Fn P 1 (Str.ofString "_law_choices") d_law_choices) (D : Def P 47 (Str.ofString "_law_between")) : Fn P 2 (Str.ofString "_law_between") d_law_between :=
  fn_def (argn := [Str.ofString "f",Str.ofString "row"]) (ctx := n_law_between) D (fun doc pm an cdv ct vals hv => by
    obtain ⟨v0,v1,rfl⟩ := len2 hv
    rfl)
    (fun x hx n => by
    simp only [List.mem_cons,List.not_mem_nil,or_false] at hx
    rcases hx with rfl | rfl <;> first | exact .inl rfl | exact .inr ⟨rfl,rfl⟩) rfl rfl rfl (by decide) rfl fun L a doc pm an cdv ct =>
  (ex_cons (ex_tupN (is := [2,3]) (xs := [(_,_),(_,_)]) (evl_cons (ev_bin (ev_bi1 (bn_len M rfl) (ev_local rfl rfl rfl) rfl bi_len) ev_int op_sub) (evl_cons (ev_def fn_law_choices (by decide) rfl rfl (evl_cons (ev_bin (ev_bi1 (bn_len M rfl) (ev_local rfl rfl rfl) rfl bi_len) ev_int op_sub) evl_nil rfl) rfl) evl_nil rfl) rfl) rfl (by decide) (allNm ⟨⟨rfl,(.inr ⟨rfl,_,rfl⟩)⟩,⟨rfl,(.inr ⟨rfl,_,rfl⟩)⟩,trivial⟩) rfl rfl)
  (ex_cons (ex_for (TgtOk.one _ _) rfl (allN ⟨⟨rfl,(.inr ⟨rfl,_,rfl⟩)⟩,trivial⟩) (it_name (ev_tuple (evl_cons ev_int (evl_cons ev_int (evl_cons ev_int evl_nil rfl) rfl) rfl) (by decide)))
  (ex_cons (ex_asg rfl (.inr ⟨rfl,_,rfl⟩) (ev_bi1 (bn_sum M rfl) (ev_comp (compOk (frn := [Str.ofString "j",Str.ofString "n"]) rfl ⟨rfl,rfl,trivial⟩ rfl rfl rfl rfl rfl rfl ⟨⟨rfl,rfl,fun _ => rfl⟩,⟨rfl,rfl,fun _ => rfl⟩,trivial⟩) (TgtOk.two _ _ _ _ _ _ (by decide)) (it_enum (bn_enumerate M rfl) (ev_local rfl rfl rfl) rfl) take2_len (fun C => (.inl ⟨rfl,rfl⟩)) (fun C => (ev_bin (ev_bin (ev_local rfl rfl rfl) (ev_bin (ev_cell rfl rfl rfl rfl) (ev_local rfl rfl rfl) op_pow) op_mul) (ev_bin ev_int (ev_bin (ev_cell rfl rfl rfl rfl) (ev_local rfl rfl rfl) op_sub) op_pow) op_mul)) (fun _ => rfl)) rfl bi_sum) rfl)
   (ex_cons (ex_asg_comp rfl (.inl rfl) (compOk (frn := [Str.ofString "value",Str.ofString "row",Str.ofString "n",Str.ofString "choices"]) rfl ⟨rfl,rfl,rfl,rfl,trivial⟩ rfl rfl rfl rfl rfl rfl ⟨⟨rfl,rfl,fun _ => rfl⟩,⟨rfl,rfl,fun _ => rfl⟩,⟨rfl,rfl,fun _ => rfl⟩,⟨rfl,rfl,fun _ => rfl⟩,trivial⟩) (TgtOk.one _ _) (it_range1 (bn_range M rfl) (ev_bin (ev_cell rfl rfl rfl rfl) ev_int op_add) rfl) take1_len (fun C => (.inl ⟨rfl,rfl⟩)) (fun C => (ev_bin (ev_bin (ev_idx (ev_cell rfl rfl rfl rfl) (ev_local rfl rfl rfl) (subOk fun _ _ => rfl)) (ev_bin ev_int (ev_cell rfl rfl rfl rfl) op_pow) op_mul) (ev_bin (ev_cell rfl rfl rfl rfl) (ev_idx (ev_cell rfl rfl rfl rfl) (ev_local rfl rfl rfl) (subOk fun _ _ => rfl)) op_mul) op_sub)) (fun _ => rfl) rfl)
   (ex_one (ex_if (ts_bool (tsl_or (ts_cmp (ev_bi1 (bn_min M rfl) (ev_local rfl rfl rfl) rfl bi_min) ev_int oc_gt rfl) (tsl_or1 (ts_cmp (ev_bi1 (bn_max M rfl) (ev_local rfl rfl rfl) rfl bi_max) ev_int oc_lt rfl))))
   (ex_one (ex_ret ev_bool))
   ex_nil)))) (fun _ => rfl))
  (ex_one (ex_ret ev_bool))))
end Mine
end
section
open PySem PySem.W PyProof.Rows PySem.Calls
set_option maxRecDepth 100000
set_option maxHeartbeats 800000
namespace Mine
structure PoolAt (P : Pk) (p : Addr) (H₀ H : HS) (s : Shared) (c : List PV) : Prop where
  h0 : H₀ p
  hp : P.hp.get? p = none
  us : ∃ us,s.heap.PlainList p (List.toArray us) ∧ RepL H s.heap c us
  len : c.length ≤ lenMax
section
variable {P : Pk} {lev : Nat} {env : Env} {ctx : List Str}
theorem PoolAt.step {p : Addr} {H₀ H H' : HS} {s s' : Shared} {c : List PV} {prot : HS} (x : PoolAt P p H₀ H s c) (hp : prot p) (f : Froz H s.heap H' s'.heap) (mv : Moves prot s s') : PoolAt P p H₀ H' s' c := by
  obtain ⟨us,pl,r⟩ := x.us
  exact ⟨x.h0,x.hp,⟨us,isList_mono pl fun o e => mv.keep p o hp e,repL_froz f _ _ r⟩,x.len⟩
theorem In.poolTurn {A : Around} {prot H₀ H : HS} {σ : Sl} {s : Shared} {m cm : Str → Option Value} {ad : Nat → Addr} {p : Addr} {h' : Heap} {tk : Nat} (X : In P lev env ctx A prot H₀ H σ s m cm ad) (h0 : H₀ p) (hpr : prot p) (hp : P.hp.get? p = none) (hs : Heap.SameBut p s.heap h') (hl : ∃ o,h'.get? p = some o) :
    In P lev env ctx A prot H₀ H σ { s with heap := h',toks := tk } m cm ad ∧ Froz H s.heap H h' ∧ Moves (fun b => prot b ∧ b ≠ p) s { s with heap := h',toks := tk } := by
  have hH := X.sub p h0
  have f : Froz H s.heap H h' := fun b o n e => ⟨n,(hs.2 b fun q => n (q ▸ hH)).trans e⟩
  have nL : env.locals ≠ p := fun q => X.loc.2 (q ▸ hpr)
  have nC : ∀ x c,env.cells.lookup x = some c → c ≠ p := fun x c e q => (X.cel x c e).2.1 (q ▸ hpr)
  have nO : ∀ j ys,σ[j]? = some (.own ys) → ad j ≠ p := fun j ys e q => (X.own j ys e).1 (q ▸ hpr)
  refine ⟨⟨⟨X.st.room,⟨X.st.pg.ok,fun b o e => (hs.2 b fun q => by rw [q,hp] at e; cases e).trans (X.st.pg.ext b o e)⟩,fun b q => ?_,X.st.ok,⟨X.st.vars.ns.sameBut hs nL,fun x c e => (X.st.vars.cells x c e).sameBut hs (nC x c e),fun j x sl hj hσ => ?_⟩⟩,fun b q => ?_,X.sub,X.pgp,X.loc,X.cel,X.inj,X.own,X.apart,X.nd,X.sz⟩,f,⟨⟨h',tk,rfl⟩,fun b o q e => (hs.2 b q.2).trans e⟩⟩
  · by_cases z : b = p
    · exact z ▸ hl
    · obtain ⟨o,e⟩ := X.st.hb b q; exact ⟨o,(hs.2 b z).trans e⟩
  · have := X.st.vars.slot j x sl hj hσ
    cases sl with
    | unset => trivial
    | val w => obtain ⟨u,e,r⟩ := this; exact ⟨u,e,rep_froz f _ _ r⟩
    | own ys => obtain ⟨e',hh,vs,p',r'⟩ := this; exact ⟨e',hh,vs,isList_mono p' fun o eo => (hs.2 _ (nO j ys hσ)).trans eo,repL_froz f _ _ r'⟩
  · by_cases z : b = p
    · exact z ▸ hl
    · obtain ⟨o,e⟩ := X.pl b q; exact ⟨o,(hs.2 b z).trans e⟩
theorem In.adopt {A : Around} {prot H₀ H : HS} {σ : Sl} {s : Shared} {m cm : Str → Option Value} {ad : Nat → Addr} {p : Addr} {i : Nat} {c : List PV} {us : List Value} (X : In P lev env ctx A prot H₀ H σ s m cm ad) (hpr : prot p) (e : σ[i]? = some (.val (.addr p)))
    (pl : s.heap.PlainList p (List.toArray us)) (r : RepL H s.heap c us) (hl : c.length ≤ lenMax) :
    In P lev env ctx A prot (fun b => H₀ b ∧ b ≠ p) (fun b => H b ∧ b ≠ p) (σ.set i (.val (.list c))) s m cm ad ∧ Froz H s.heap (fun b => H b ∧ b ≠ p) s.heap := by
  have f : Froz H s.heap (fun b => H b ∧ b ≠ p) s.heap := fun b o n e => ⟨fun q => n q.1,e⟩
  have hi := lt_of_get e
  have nL : env.locals ≠ p := fun q => X.loc.2 (q ▸ hpr)
  have nC : ∀ x c,env.cells.lookup x = some c → c ≠ p := fun x c e q => (X.cel x c e).2.1 (q ▸ hpr)
  have nO : ∀ j ys,σ[j]? = some (.own ys) → ad j ≠ p := fun j ys e q => (X.own j ys e).1 (q ▸ hpr)
  have back : ∀ (j : Nat) (ys : List PV),(σ.set i (.val (.list c)))[j]? = some (.own ys) → σ[j]? = some (.own ys) := fun j ys ej => by
    by_cases q : j = i
    · subst q; rw [List.getElem?_set_self hi] at ej; cases ej
    · rwa [List.getElem?_set_ne (Ne.symm q)] at ej
  refine ⟨⟨⟨X.st.room,X.st.pg,fun b q => X.st.hb b q.1,X.st.ok,⟨X.st.vars.ns,X.st.vars.cells,fun j x sl hj hσ => ?_⟩⟩,X.pl,fun b q => ⟨X.sub b q.1,q.2⟩,X.pgp,⟨⟨X.loc.1,nL⟩,X.loc.2⟩,fun x c' ec => ⟨⟨(X.cel x c' ec).1,nC x c' ec⟩,(X.cel x c' ec).2⟩,X.inj,
    fun j ys ej => ⟨(X.own j ys (back j ys ej)).1,fun q => (X.own j ys (back j ys ej)).2.1 q.1,(X.own j ys (back j ys ej)).2.2⟩,fun j k ys zs ej ek n => X.apart j k ys zs (back j ys ej) (back k zs ek) n,X.nd,by rw [List.length_set]; exact X.sz⟩,f⟩
  by_cases q : j = i
  · subst q
    rw [List.getElem?_set_self hi] at hσ
    cases hσ
    obtain ⟨u,eu,ru⟩ := X.st.vars.slot j x _ hj e
    rw [Rep] at ru
    subst ru
    refine ⟨_,eu,?_⟩
    rw [Rep]
    exact ⟨p,us,rfl,fun z => z.2 rfl,pl,repL_froz f _ _ r,hl⟩
  · rw [List.getElem?_set_ne (fun z => q z.symm)] at hσ
    have := X.st.vars.slot j x sl hj hσ
    cases sl with
    | unset => trivial
    | val w => obtain ⟨u,e,r⟩ := this; exact ⟨u,e,rep_froz f _ _ r⟩
    | own ys => obtain ⟨e',h',vs,p',r'⟩ := this; exact ⟨e',⟨h',nO j ys hσ⟩,vs,p',repL_froz f _ _ r'⟩
theorem execs_step {st : Stmt} {rest : List Stmt} {d : SDen} (h : ExS P lev env ctx st d) {A : Around} {prot H₀ H : HS} {σ σ' : Sl} {s : Shared} {m cm : Str → Option Value} {ad : Nat → Addr} {Q : Flow → Shared → Prop} {E : Value → Shared → Prop}
    (X : In P lev env ctx A prot H₀ H σ s m cm ad) (e : d σ = some (.next σ'))
    (c : ∀ s' H' m' cm' ad',In P lev env ctx A prot H₀ H' σ' s' m' cm' ad' → Froz H s.heap H' s'.heap → Moves prot s s' → wpAny (model P.prog P.w) A (execs rest env) Q E s') :
    wpAny (model P.prog P.w) A (execs (st :: rest) env) Q E s :=
  wpAny_execs_cons (h A prot H₀ H σ s m cm ad (.next σ') _ E X e fun s' H' m' cm' ad' X' f mv => c s' H' m' cm' ad' X' f mv)
theorem pool_get {i j : Nat} {x y : Str} {xp yp sp pos : Pos} {k : Expr} {dk : Den} (hi : ctx[i]? = some x) (hl : env.kindOf x = some .local) (hd : (x == ("__debug__" : Str)) = false) (hj : ctx[j]? = some y) (hy : NameAt env y) (hk : Ev P lev env ctx k dk) (hsub : SubOk k)
    (hs : swapsWith (.Subscript (.Name x xp) k sp) (some (.Name y yp)) pos.line env = pure false)
    {A : Around} {prot H₀ H : HS} {σ : Sl} {s : Shared} {m cm : Str → Option Value} {ad : Nat → Addr} {p : Addr} {c : List PV} {kk : Int} {pv : PV} {rest : List Stmt} {Q : Flow → Shared → Prop} {E : Value → Shared → Prop}
    (X : In P lev env ctx A prot H₀ H σ s m cm ad) (hx : σ[i]? = some (.val (.addr p))) (pa : PoolAt P p H₀ H s c) (hpr : prot p) (ek : dk σ = some (.int kk)) (ep : idxL c kk = some pv)
    (cont : ∀ s' m' cm' ad',In P lev env ctx A prot H₀ H (σ.set j (.val pv)) s' m' cm' ad' → PoolAt P p H₀ H s' c → Froz H s.heap H s'.heap → Moves prot s s' → wpAny (model P.prog P.w) A (execs rest env) Q E s') :
    wpAny (model P.prog P.w) A (execs (.Assign [.Name y yp] (.Subscript (.Name x xp) k sp) pos :: rest) env) Q E s := by
  refine wpAny_execs_cons (wpAny_Assign_Name (PyProof.Rows.Subscript_ (ev_local hi hl hd A H σ s m cm ad (.addr p) _ E X.st (by unfold vr; rw [hx]) fun v s₁ k₁ r => ?_)) hs)
  rw [Rep] at r; subst r
  refine hk A H σ s₁ m cm ad _ _ E (X.keeps k₁).st ek fun vk s₂ k₂ rk => ?_
  obtain ⟨u,rfl⟩ := rk.int_inv
  have k12 := keeps_tr k₁ k₂
  have pa2 := pa.step hpr (keeps_froz k12) (keeps_moves k12)
  obtain ⟨us,pl,rp⟩ := pa2.us
  obtain ⟨ops,ho⟩ := hsub (.ref p) (.int kk u)
  refine tail_any (plain_isList pl).typeIs slot_list_getitem.lookup (getItem_plain pl rp pa.len ep fun v r => ?_) ho
  refine store_val (X.keeps k12) hj hy r fun s' m' cm' X' f mv => ?_
  exact cont s' m' cm' _ X' (pa2.step hpr f mv) ((keeps_froz k12).trans f) ((keeps_moves k12).tr mv)
theorem pool_set {i : Nat} {x : Str} {xp sp pos : Pos} {k e : Expr} {dk dv : Den} (hi : ctx[i]? = some x) (hl : env.kindOf x = some .local) (hd : (x == ("__debug__" : Str)) = false) (hk : Ev P lev env ctx k dk) (he : Ev P lev env ctx e dv)
    (hs : swapsWith e (some (.Subscript (.Name x xp) k sp)) pos.line env = pure false)
    {A : Around} {prot H₀ H : HS} {σ : Sl} {s : Shared} {m cm : Str → Option Value} {ad : Nat → Addr} {p : Addr} {c c' : List PV} {kk : Int} {pv : PV} {rest : List Stmt} {Q : Flow → Shared → Prop} {E : Value → Shared → Prop}
    (X : In P lev env ctx A prot H₀ H σ s m cm ad) (hx : σ[i]? = some (.val (.addr p))) (pa : PoolAt P p H₀ H s c) (hpr : prot p) (ek : dk σ = some (.int kk)) (ev : dv σ = some pv) (ep : setIdx c kk pv = some c')
    (cont : ∀ s',In P lev env ctx A prot H₀ H σ s' m cm ad → PoolAt P p H₀ H s' c' → Froz H s.heap H s'.heap → Moves (fun b => prot b ∧ b ≠ p) s s' → wpAny (model P.prog P.w) A (execs rest env) Q E s') :
    wpAny (model P.prog P.w) A (execs (.Assign [.Subscript (.Name x xp) k sp] e pos :: rest) env) Q E s := by
  refine wpAny_execs_cons (wpAny_Assign_Subscript (he A H σ s m cm ad pv _ E X.st ev fun v s₁ k₁ rv => ?_) hs)
  refine ev_local hi hl hd A H σ s₁ m cm ad (.addr p) _ E (X.keeps k₁).st (by unfold vr; rw [hx]) fun vo s₂ k₂ r => ?_
  rw [Rep] at r; subst r
  have k12 := keeps_tr k₁ k₂
  refine hk A H σ s₂ m cm ad _ _ E (X.keeps k12).st ek fun vk s₃ k₃ rk => ?_
  obtain ⟨u,rfl⟩ := rk.int_inv
  have k13 := keeps_tr k12 k₃
  have pa3 := pa.step hpr (keeps_froz k13) (keeps_moves k13)
  obtain ⟨us,pl,rp⟩ := pa3.us
  obtain ⟨h0,hlt,rfl⟩ := setIdx_some ep
  have hlen : c.length ≤ 1000000 := pa.len
  have hlu := rp.length
  refine setItem_plain pl h0 (by lia) (by rw [List.size_toArray,hlu]; lia) fun h' p' hsb => ?_
  have p2 : h'.PlainList p (List.toArray (us.set kk.toNat v)) := by
    have : (List.toArray us).setIfInBounds kk.toNat v = List.toArray (us.set kk.toNat v) := by simp
    rw [← this]; exact p'
  obtain ⟨X4,f4,mv4⟩ := (X.keeps k13).poolTurn (tk := s₃.toks) pa.h0 hpr pa.hp hsb (by obtain ⟨n,e⟩ := p2; exact ⟨_,e⟩)
  refine cont _ X4 ⟨pa.h0,pa.hp,⟨_,p2,repL_froz f4 _ _ (RepL.set rp (rv.keeps (keeps_tr k₂ k₃)))⟩,by simpa using pa.len⟩ ((keeps_froz k13).trans f4) (((keeps_moves k13).tr mv4))
end
noncomputable def b_draw_rest : SDen :=
 (sSeq (sIf (tcmp ltV (vr 2) (una lenV (idx (vr 0) (ci 0))))
 (sRet (bin modV (una absV (idx (idx (vr 0) (ci 0)) (vr 2))) (vr 1)))
 sNop)
 (sRet (bin modV (idx (tpl [(ci 1),(ci 0),(ci 1),(ci 2),(ci 0),(ci 0),(ci 3),(ci 2),(ci 0)]) (bin modV (vr 2) (ci 9))) (vr 1))))
noncomputable def n_draw : List Str := [Str.ofString "pool",Str.ofString "many",Str.ofString "spot"]
noncomputable def drawD (c : List PV) (k : Int) : Option (Int × List PV) :=
  match idxL c 1 with
  | some (.int spot) => (match setIdx c 1 (.int (spot + 1)) with
    | some c' => (match b_draw_rest [.val (.list c'),.val (.int k),.val (.int spot)] with
      | some (.ret (.int r)) => some (r,c')
      | _ => none)
    | none => none)
  | _ => none
noncomputable def DrawFn (P : Pk) (lev : Nat) (f : Str) (d : List PV → Int → Option (Int × List PV)) : Prop :=
  ∃ (a : Addr) (fd : FuncData),P.mg f = some (.ref a) ∧ (∃ o,P.hp.get? a = some o ∧ o.data = .func fd) ∧
  ∀ (A : Around) (H : HS) (s : Shared) (p : Addr) (c : List PV) (us : List Value) (k : Int) (t : Tok) (r : Int) (c' : List PV) (Q : Value → Shared → Prop) (E : Value → Shared → Prop),
    Room A lev → PG P s.heap → HB H s.heap → H p → P.hp.get? p = none → s.heap.PlainList p (List.toArray us) → RepL H s.heap c us → c.length ≤ lenMax → d c k = some (r,c') →
    (∀ u s' us',(∃ h tk,s' = { s with heap := h,toks := tk }) → (∀ b o,b ≠ p → s.heap.get? b = some o → s'.heap.get? b = some o) → s'.heap.PlainList p (List.toArray us') → RepL H s'.heap c' us' → c'.length ≤ lenMax → Q (.int r u) s') →
    wpAny (model P.prog P.w) A (PySem.call (.ref a) [.ref p,.int k t]) Q E s
theorem starI {env : Env} {i : Int} {k : Nat} {p : Pos} (rest : List Expr) : starEach (.Constant (.int i) k p :: rest) env = (false,eval (.Constant (.int i) k p) env) :: starEach rest env := rfl
theorem draw_rest {P : Pk} (M : Miss P) (L a : Addr) (doc pm : Value) (an : Option Addr) (cdv ct : Value) :
    ExP P 0 (callEnvC (fnOf (Str.ofString "_law_draw") (Str.ofString "_law_draw") (argsOf (stAt 42)) (bodyOf (stAt 42)) (scopeOf (stAt 42)) .none .none doc pm an cdv ct) L a) n_draw ((bodyOf (stAt 42)).drop 2) b_draw_rest := by
  refine ex_cons (ex_if (ts_cmp (ev_local rfl rfl rfl) (ev_bi1 (bn_len M rfl) (ev_idx (ev_local rfl rfl rfl) ev_int (subOk fun _ _ => rfl)) rfl bi_len) oc_lt rfl) (ex_one (ex_ret (ev_bin (ev_bi1 (bn_abs M rfl) (ev_idx (ev_idx (ev_local rfl rfl rfl) ev_int (subOk fun _ _ => rfl)) (ev_local rfl rfl rfl) (subOk fun _ _ => rfl)) rfl bi_abs) (ev_local rfl rfl rfl) op_mod))) ex_nil) ?_
  refine ex_one ?_
  refine ex_ret ?_
  refine ev_bin ?_ (ev_local rfl rfl rfl) op_mod
  refine ev_idx ?_ ?_ ?_
  · refine ev_tuple ?_ (by decide)
    exact (evl_cons ev_int (evl_cons ev_int (evl_cons ev_int (evl_cons ev_int (evl_cons ev_int (evl_cons ev_int (evl_cons ev_int (evl_cons ev_int (evl_cons ev_int evl_nil (starI _)) (starI _)) (starI _)) (starI _)) (starI _)) (starI _)) (starI _)) (starI _)) (starI _))
  · exact ev_bin (ev_local rfl rfl rfl) ev_int op_mod
  · exact subOk fun _ _ => rfl
theorem fn_law_draw {P : Pk} (M : Miss P) (D : Def P 42 (Str.ofString "_law_draw")) : DrawFn P 1 (Str.ofString "_law_draw") drawD := by
  obtain ⟨a,oc,od,osl,doc,pm,an,cdv,ct,hm,hk,hc⟩ := D
  refine ⟨a,_,hm,⟨_,hk,rfl⟩,fun A H s p c us k t r c' Q E R G B hp hpg pl rc hlen hd cont => ?_⟩
  unfold drawD at hd
  split at hd
  case h_2 => cases hd
  rename_i spot hspot
  split at hd
  case h_2 => cases hd
  rename_i c'' hc'
  split at hd
  case h_2 => cases hd
  rename_i r' hr
  cases hd
  have DD : DefOk P (Str.ofString "_law_draw") a ⟨oc,od,.func (fnOf (Str.ofString "_law_draw") (Str.ofString "_law_draw") (argsOf (stAt 42)) (bodyOf (stAt 42)) (scopeOf (stAt 42)) .none .none doc pm an cdv ct),osl⟩ _ [Str.ofString "pool",Str.ofString "many"] (bodyOf (stAt 42)) n_draw :=
    ⟨hm,hk,rfl,hc,rfl,(fun vals hv => by
      obtain ⟨v0,v1,rfl⟩ := len2 hv
      rfl),rfl,rfl,rfl,(fun x hx n => by
      simp only [List.mem_cons,List.not_mem_nil,or_false] at hx
      rcases hx with rfl | rfl <;> exact .inl rfl),rfl,rfl,rfl,by decide,rfl⟩
  refine call_entry (lev := 0) DD R G B (xs := [.addr p,.int k]) (RepL.cons (by rw [Rep]) (RepL.cons (Rep.int _ _) RepL.nil)) rfl fun L s₁ m cm newL newC same keep1 X => ?_
  have hpr : ∃ o,s.heap.get? p = some o := by obtain ⟨n,e⟩ := pl; exact ⟨_,e⟩
  have f1 : Froz H s.heap (fun b => H b ∨ b = L ∨ ∃ y,(callEnvC (fnOf (Str.ofString "_law_draw") (Str.ofString "_law_draw") (argsOf (stAt 42)) (bodyOf (stAt 42)) (scopeOf (stAt 42)) .none .none doc pm an cdv ct) L a).cells.lookup y = some b) s₁.heap := fun b o n e => ⟨fun q => (by
    rcases q with q | q | ⟨y,q⟩
    · exact n q
    · rw [q,newL] at e; cases e
    · rw [newC y b q] at e; cases e),keep1 b o e⟩
  have pa : PoolAt P p H _ s₁ c := ⟨hp,hpg,⟨us,isList_mono pl fun o e => keep1 _ o e,repL_froz f1 _ _ rc⟩,hlen⟩
  refine pool_get (i := 0) (j := 2) rfl rfl rfl rfl (.inl rfl) ev_int (subOk fun _ _ => rfl) rfl X rfl pa hpr rfl hspot fun s₂ m₂ cm₂ ad₂ X₂ pa₂ f₂ mv₂ => ?_
  refine pool_set (i := 0) (dv := bin addV (vr 2) (ci 1)) rfl rfl rfl ev_int (ev_bin (ev_local rfl rfl rfl) ev_int op_add) rfl X₂ rfl pa₂ hpr rfl rfl hc' fun s₃ X₃ pa₃ f₃ mv₃ => ?_
  obtain ⟨us₃,pl₃,rp₃⟩ := pa₃.us
  obtain ⟨X₄,f₄⟩ := X₃.adopt hpr (i := 0) rfl pl₃ rp₃ pa₃.len
  refine draw_rest M L a doc pm an cdv ct _ _ _ _ _ s₃ _ _ _ (.ret (.int r)) _ _ X₄ hr fun s' H' u ru h0 f' mv' => ?_
  obtain ⟨tu,rfl⟩ := ru.int_inv
  have mvall := ((mv₂.mono (prot' := fun b => (∃ o,s.heap.get? b = some o) ∧ b ≠ p) fun b q => q.1).tr mv₃).tr (mv'.mono fun b q => q.1)
  obtain ⟨h1,tk1,e1⟩ := same
  obtain ⟨h2,tk2,e2⟩ := mvall.same
  refine cont tu s' us₃ ⟨h2,tk2,by rw [e2,e1]⟩ (fun b o n e => mvall.keep b o ⟨⟨o,e⟩,n⟩ (keep1 b o e)) (isList_mono pl₃ fun o e => mv'.keep p o hpr e) ?_ pa₃.len
  refine repL_froz (fun b o n e => ⟨fun q => n (.inl q),?_⟩) _ _ rp₃
  exact ((f₄.trans f') b o n e).2
end Mine
end
section
open PySem PySem.W PyProof.Rows PySem.Calls
set_option maxRecDepth 100000
set_option maxHeartbeats 800000
namespace Mine
noncomputable abbrev QDen := Sl → List PV → Option (PV × List PV)
noncomputable abbrev QStm := Sl → List PV → Option (Sl × List PV)
noncomputable def qPure (d : Den) : QDen := fun σ c => (d σ).map (·,c)
noncomputable def qBin (f : PV → PV → Option PV) (a b : QDen) : QDen := fun σ c => match a σ c with
  | none => none
  | some (x,c₁) => match b σ c₁ with
    | none => none
    | some (y,c₂) => (f x y).map (·,c₂)
noncomputable def qDraw (d : List PV → Int → Option (Int × List PV)) (k : Den) : QDen := fun σ c => match k σ with
  | some (.int k) => (d c k).map fun r => (.int r.1,r.2)
  | _ => none
noncomputable def qEvs : List QDen → Sl → List PV → Option (List PV × List PV)
  | [],_,c => some ([],c)
  | d :: ds,σ,c => match d σ c with
    | none => none
    | some (x,c₁) => match qEvs ds σ c₁ with
      | none => none
      | some (xs,c₂) => some (x :: xs,c₂)
noncomputable def qTpl (ds : List QDen) : QDen := fun σ c => (qEvs ds σ c).map fun r => (.tup r.1,r.2)
noncomputable def qUnp (ts : List (Nat × Bool)) (d : QDen) : QStm := fun σ c => match d σ c with
  | some (.tup vs,c') => (setMany ts vs σ).map (·,c')
  | _ => none
noncomputable def qLift (d : SDen) : QStm := fun σ c => match d σ with
  | some (.next σ') => some (σ',c)
  | _ => none
noncomputable def qSeq (a b : QStm) : QStm := fun σ c => match a σ c with
  | none => none
  | some (σ',c') => b σ' c'
noncomputable def forQ (i : Nat) (d : QStm) : List PV → Sl → List PV → Option (Sl × List PV)
  | [],σ,c => some (σ,c)
  | x :: xs,σ,c => match d (σ.set i (.val x)) c with
    | none => none
    | some (σ',c') => forQ i d xs σ' c'
section
variable {P : Pk} {lev : Nat} {env : Env} {ctx : List Str}
noncomputable def But (prot : HS) (p : Addr) : HS := fun b => prot b ∧ b ≠ p
theorem Moves.but {prot : HS} {p : Addr} {s s' : Shared} (m : Moves prot s s') : Moves (But prot p) s s' := m.mono fun _ q => q.1
noncomputable def EvQ (P : Pk) (lev : Nat) (env : Env) (ctx : List Str) (e : Expr) (d : QDen) : Prop :=
  ∀ (A : Around) (prot H₀ H : HS) (σ : Sl) (s : Shared) (m cm : Str → Option Value) (ad : Nat → Addr) (p : Addr) (c : List PV) (pv : PV) (c' : List PV) (Q : Value → Shared → Prop) (E : Value → Shared → Prop),
    In P lev env ctx A prot H₀ H σ s m cm ad → prot p → σ[0]? = some (.val (.addr p)) → PoolAt P p H₀ H s c → d σ c = some (pv,c') →
    (∀ v s',In P lev env ctx A prot H₀ H σ s' m cm ad → PoolAt P p H₀ H s' c' → Froz H s.heap H s'.heap → Moves (But prot p) s s' → Rep H s'.heap pv v → Q v s') →
    wpAny (model P.prog P.w) A (eval e env) Q E s
noncomputable def EvLQ (P : Pk) (lev : Nat) (env : Env) (ctx : List Str) (es : List Expr) (ds : List QDen) : Prop :=
  ∀ (A : Around) (prot H₀ H : HS) (σ : Sl) (s : Shared) (m cm : Str → Option Value) (ad : Nat → Addr) (p : Addr) (c : List PV) (xs : List PV) (c' : List PV) (pos : Pos) (Q : List Value → Shared → Prop) (E : Value → Shared → Prop),
    In P lev env ctx A prot H₀ H σ s m cm ad → prot p → σ[0]? = some (.val (.addr p)) → PoolAt P p H₀ H s c → qEvs ds σ c = some (xs,c') →
    (∀ vs s',In P lev env ctx A prot H₀ H σ s' m cm ad → PoolAt P p H₀ H s' c' → Froz H s.heap H s'.heap → Moves (But prot p) s s' → RepL H s'.heap xs vs → Q vs s') →
    wpAny (model P.prog P.w) A (spliced (backTo pos (starEach es env))) Q E s
noncomputable def QPost (P : Pk) (lev : Nat) (env : Env) (ctx : List Str) (A : Around) (prot H₀ H : HS) (p : Addr) (s : Shared) (σ' : Sl) (c' : List PV) (Q : Flow → Shared → Prop) : Prop :=
  ∀ s' H' m' cm' ad',In P lev env ctx A prot H₀ H' σ' s' m' cm' ad' → σ'[0]? = some (.val (.addr p)) → PoolAt P p H₀ H' s' c' → Froz H s.heap H' s'.heap → Moves (But prot p) s s' → Q .next s'
noncomputable def ExQ (P : Pk) (lev : Nat) (env : Env) (ctx : List Str) (st : Stmt) (d : QStm) : Prop :=
  ∀ (A : Around) (prot H₀ H : HS) (σ : Sl) (s : Shared) (m cm : Str → Option Value) (ad : Nat → Addr) (p : Addr) (c : List PV) (σ' : Sl) (c' : List PV) (Q : Flow → Shared → Prop) (E : Value → Shared → Prop),
    In P lev env ctx A prot H₀ H σ s m cm ad → prot p → σ[0]? = some (.val (.addr p)) → PoolAt P p H₀ H s c → d σ c = some (σ',c') → QPost P lev env ctx A prot H₀ H p s σ' c' Q → wpAny (model P.prog P.w) A (exec st env) Q E s
noncomputable def ExPQ (P : Pk) (lev : Nat) (env : Env) (ctx : List Str) (ss : List Stmt) (d : QStm) : Prop :=
  ∀ (A : Around) (prot H₀ H : HS) (σ : Sl) (s : Shared) (m cm : Str → Option Value) (ad : Nat → Addr) (p : Addr) (c : List PV) (σ' : Sl) (c' : List PV) (Q : Flow → Shared → Prop) (E : Value → Shared → Prop),
    In P lev env ctx A prot H₀ H σ s m cm ad → prot p → σ[0]? = some (.val (.addr p)) → PoolAt P p H₀ H s c → d σ c = some (σ',c') → QPost P lev env ctx A prot H₀ H p s σ' c' Q → wpAny (model P.prog P.w) A (execs ss env) Q E s
theorem evq_pure {e : Expr} {d : Den} (h : Ev P lev env ctx e d) : EvQ P lev env ctx e (qPure d) := fun A prot H₀ H σ s m cm ad p c pv c' Q E X hp h0 pa e cont => by
  unfold qPure at e
  cases z : d σ with
  | none => rw [z] at e; cases e
  | some v =>
    rw [z] at e; cases e
    exact h A H σ s m cm ad pv Q E X.st z fun u s' k r => cont u s' (X.keeps k) (pa.step hp (keeps_froz k) (keeps_moves k)) (keeps_froz k) (keeps_moves k) r
theorem evq_bin {l r : Expr} {op : Operator} {pos : Pos} {f : PV → PV → Option PV} {dl dr : QDen} (hl : EvQ P lev env ctx l dl) (hr : EvQ P lev env ctx r dr) (ho : Op2 P (binaryOp op) f) :
    EvQ P lev env ctx (.BinOp l op r pos) (qBin f dl dr) := fun A prot H₀ H σ s m cm ad p c pv c' Q E X hp h0 pa e cont => by
  unfold qBin at e
  split at e
  · cases e
  rename_i x c₁ hx
  split at e
  · cases e
  rename_i y c₂ hy
  cases z : f x y with
  | none => rw [z] at e; cases e
  | some w =>
    rw [z] at e; cases e
    refine wpAny_BinOp (hl A prot H₀ H σ s m cm ad p c x c₁ _ E X hp h0 pa hx fun va s₁ X₁ pa₁ f₁ mv₁ ra => ?_)
    refine hr A prot H₀ H σ s₁ m cm ad p c₁ y _ _ E X₁ hp h0 pa₁ hy fun vb s₂ X₂ pa₂ f₂ mv₂ rb => ?_
    refine ho A lev H s₂ x y pv va vb Q E X₂.st.room X₂.st.pg X₂.st.hb (rep_froz f₂ _ _ ra) rb z fun v s₃ k₃ rv => ?_
    exact cont v s₃ (X₂.keeps k₃) (pa₂.step hp (keeps_froz k₃) (keeps_moves k₃)) ((f₁.trans f₂).trans (keeps_froz k₃)) ((mv₁.tr mv₂).tr (keeps_moves k₃)) rv
theorem evq_draw {lev' : Nat} {f : Str} {d : List PV → Int → Option (Int × List PV)} {fp xp pos : Pos} {x : Str} {k : Expr} {dk : Den} (F : DrawFn P lev' f d) (hl : lev' ≤ lev) (hk : env.kindOf f = some .globalImplicit) (hd : (f == ("__debug__" : Str)) = false)
    (hi : ctx[0]? = some x) (hx : env.kindOf x = some .local) (hxd : (x == ("__debug__" : Str)) = false) (hke : Ev P lev env ctx k dk)
    (hs : starEach [.Name x xp,k] env = (false,eval (.Name x xp) env) :: starEach [k] env) (hs2 : starEach [k] env = (false,eval k env) :: starEach [] env) :
    EvQ P lev env ctx (.Call (.Name f fp) [.Name x xp,k] [] pos) (qDraw d dk) := fun A prot H₀ H σ s m cm ad p c pv c' Q E X hp h0 pa e cont => by
  unfold qDraw at e
  split at e
  case h_2 => cases e
  rename_i kk hkk
  cases z : d c kk with
  | none => rw [z] at e; cases e
  | some r =>
    obtain ⟨ri,rc⟩ := r
    rw [z] at e; cases e
    obtain ⟨a,fd,hm,⟨o,ho,hof⟩,hf⟩ := F
    rw [eval_call_name]
    refine wpAny_bind (name_def X.st hk hm hd ?_)
    refine callWith_function (o := o) (fd := fd) (wp_args hs ?_)
    refine wpAny_items_cons (ev_local hi hx hxd A H σ s m cm ad (.addr p) _ E X.st (by unfold vr; rw [h0]) fun v s₁ k₁ r => ?_) hs
    rw [Rep] at r; subst r
    refine wpAny_items_cons (hke A H σ s₁ m cm ad _ _ E (X.keeps k₁).st hkk fun vk s₂ k₂ rk => wpAny_items_nil ?_) hs2
    obtain ⟨u,rfl⟩ := rk.int_inv
    have k12 := keeps_tr k₁ k₂
    have X₂ := X.keeps k12
    have pa₂ := pa.step hp (keeps_froz k12) (keeps_moves k12)
    refine ⟨⟨X₂.st.pg.kin a o ho,hof⟩,?_⟩
    obtain ⟨us,pl,rp⟩ := pa₂.us
    refine hf A H s₂ p c us kk u ri _ Q E (X₂.st.room.down hl) X₂.st.pg X₂.st.hb (X₂.sub p pa₂.h0) pa₂.hp pl rp pa₂.len z fun u' s₃ us₃ same keep pl₃ rp₃ len₃ => ?_
    obtain ⟨h₃,tk₃,e₃⟩ := same
    have w : Wr [p] s₂ s₃ := ⟨⟨h₃,tk₃,e₃⟩,fun b o n e => keep b o (fun q => n (q ▸ .head _)) e⟩
    have one : ∀ b,b ∈ [p] → b = p := fun b q => by simpa using q
    obtain ⟨X₃,f₃⟩ := X₂.wr w (fun b q => one b q ▸ X₂.sub p pa₂.h0) (fun b q => by rw [one b q]; obtain ⟨n,e⟩ := pl₃; exact ⟨_,e⟩) (fun b q => by
        by_cases z : b = p
        · rw [z]; right; obtain ⟨n,e⟩ := pl₃; exact ⟨_,e⟩
        · left; exact fun q => z (one b q)) (fun q => X₂.loc.2 (one _ q ▸ hp)) (fun y c e q => (X₂.cel y c e).2.1 (one _ q ▸ hp)) (fun j ys e q => (X₂.own j ys e).1 (one _ q ▸ hp)) (fun b q => one b q ▸ pa₂.hp)
    exact cont _ s₃ X₃ ⟨pa₂.h0,pa₂.hp,⟨us₃,pl₃,rp₃⟩,len₃⟩ ((keeps_froz k12).trans f₃) ((keeps_moves k12).tr ⟨⟨h₃,tk₃,e₃⟩,fun b o q e => keep b o q.2 e⟩) (Rep.int _ _)
theorem evlq_nil : EvLQ P lev env ctx [] [] := fun A prot H₀ H σ s m cm ad p c xs c' pos Q E X hp h0 pa e cont => by
  unfold qEvs at e; cases e
  exact wpAny_items_nil (cont [] s X pa (Froz.refl _ _) (moves_refl _ _) RepL.nil)
theorem evlq_cons {e : Expr} {es : List Expr} {d : QDen} {ds : List QDen} (he : EvQ P lev env ctx e d) (hr : EvLQ P lev env ctx es ds)
    (hs : starEach (e :: es) env = (false,eval e env) :: starEach es env) : EvLQ P lev env ctx (e :: es) (d :: ds) := fun A prot H₀ H σ s m cm ad p c xs c' pos Q E X hp h0 pa h cont => by
  unfold qEvs at h
  split at h
  · cases h
  rename_i x c₁ hx
  split at h
  · cases h
  rename_i ys c₂ hy
  cases h
  refine wpAny_items_cons (he A prot H₀ H σ s m cm ad p c x c₁ _ E X hp h0 pa hx fun v s₁ X₁ pa₁ f₁ mv₁ r => ?_) hs
  exact hr A prot H₀ H σ s₁ m cm ad p c₁ ys _ pos _ E X₁ hp h0 pa₁ hy fun vs s₂ X₂ pa₂ f₂ mv₂ rs => cont _ s₂ X₂ pa₂ (f₁.trans f₂) (mv₁.tr mv₂) (RepL.cons (rep_froz f₂ _ _ r) rs)
theorem qEvs_length {ds : List QDen} {σ : Sl} : ∀ {c : List PV} {xs c' : List PV},qEvs ds σ c = some (xs,c') → xs.length = ds.length := by
  induction ds with
  | nil => intro c xs c' h; unfold qEvs at h; cases h; rfl
  | cons d ds ih =>
    intro c xs c' h
    unfold qEvs at h
    split at h
    · cases h
    split at h
    · cases h
    rename_i hy
    cases h
    simp [ih hy]
theorem evq_tuple {es : List Expr} {k : Nat} {pos : Pos} {ds : List QDen} (h : EvLQ P lev env ctx es ds) (hn : ds.length ≤ 1000) : EvQ P lev env ctx (.Tuple es k pos) (qTpl ds) := fun A prot H₀ H σ s m cm ad p c pv c' Q E X hp h0 pa e cont => by
  unfold qTpl at e
  cases z : qEvs ds σ c with
  | none => rw [z] at e; cases e
  | some r =>
    obtain ⟨xs,c₁⟩ := r
    rw [z] at e; cases e
    have hl := qEvs_length z
    refine wpAny_Tuple (h A prot H₀ H σ s m cm ad p c xs _ pos _ E X hp h0 pa z fun vs s₁ X₁ pa₁ f₁ mv₁ rs => ?_)
    have hv := rs.length
    have hb := X₁.st.hb
    refine ⟨by rw [sizeLine_val]; lia,cont _ _ (X₁.keeps (keeps_push _ _)) (pa₁.step hp (keeps_froz (keeps_push _ _)) (keeps_moves (keeps_push _ _))) (f₁.trans (keeps_froz (keeps_push _ _))) (mv₁.tr (keeps_moves (keeps_push _ _))) ?_⟩
    rw [Rep]
    exact ⟨_,vs,rfl,hb.new,⟨_,Heap.get?_push_size _ rfl,rfl,0,rfl⟩,rs.keeps (keeps_push _ _),by show xs.length ≤ _; unfold lenMax; lia⟩
theorem exq_unp {is : List Nat} {xs : List (Str × Pos)} {k : Nat} {tp pos : Pos} {e : Expr} {d : QDen} (he : EvQ P lev env ctx e d) (hl : is.length = xs.length) (hn : ∀ (j i : Nat) (x : Str × Pos),is[j]? = some i → xs[j]? = some x → ctx[i]? = some x.1 ∧ NameAt env x.1)
    (h00 : 0 ∉ is) (hs : swapsWithSole [.Tuple (elts xs) k tp] e pos.line env = pure false) (hw : swappedStores [.Tuple (elts xs) k tp] e env = pure none) :
    ExQ P lev env ctx (.Assign [.Tuple (elts xs) k tp] e pos) (qUnp (is.map (·,false)) d) := fun A prot H₀ H σ s m cm ad p c σ' c' Q E X hp h0 pa h cont => by
  unfold qUnp at h
  split at h
  case h_2 => cases h
  rename_i vs c₁ hv
  cases z : setMany (is.map (·,false)) vs σ with
  | none => rw [z] at h; cases h
  | some σ₁ =>
    rw [z] at h; cases h
    have stay : ∀ (is : List Nat) (vs : List PV) (σ σ' : Sl),0 ∉ is → setMany (is.map (·,false)) vs σ = some σ' → σ'[0]? = σ[0]? := by
      intro is
      induction is with
      | nil =>
        intro vs σ σ' _ e
        cases vs with
        | nil => simp only [List.map_nil,sM0] at e; cases e; rfl
        | cons a b => simp [sM3,sM4] at e
      | cons i is ih =>
        intro vs σ σ' n e
        cases vs with
        | nil => simp [sM3,sM4] at e
        | cons a b =>
          simp only [List.map_cons,sM1] at e
          rw [ih _ _ _ (fun q => n (.tail _ q)) e,List.getElem?_set_ne (fun q => n (by rw [q]; exact .head _))]
    refine Assign_Tuple (he A prot H₀ H σ s m cm ad p c _ _ _ E X hp h0 pa hv fun v s₁ X₁ pa₁ f₁ mv₁ r => ?_) hs hw
    obtain ⟨T,us,rfl,nT,tT,qT,_⟩ := r.tup_inv
    have hpl := elts_plain xs env
    refine assign_pair X.st.room.handled (by rw [hpl.1,qT.length,setMany_length z,hl]) hpl.2 tT fun s₂ k₂ => ?_
    refine store_names is xs vs us prot H₀ H σ _ s₂ m cm ad (X₁.keeps k₂) hl hn (qT.keeps k₂) z fun s' m' cm' ad' X' f mv => ?_
    have f2 := (keeps_froz k₂).trans f
    have mv2 := (keeps_moves (prot := prot) k₂).tr mv
    exact cont s' H m' cm' ad' X' ((stay _ _ _ _ h00 z).trans h0) (pa₁.step hp f2 mv2) (f₁.trans f2) (mv₁.tr mv2.but)
theorem expq_lift {ss : List Stmt} {d : SDen} (h : ExP P lev env ctx ss d) (h00 : ∀ σ σ',d σ = some (.next σ') → σ'[0]? = σ[0]?) : ExPQ P lev env ctx ss (qLift d) := fun A prot H₀ H σ s m cm ad p c σ' c' Q E X hp h0 pa e cont => by
  unfold qLift at e
  split at e
  case h_2 => cases e
  rename_i σ₁ hσ
  cases e
  exact h A prot H₀ H σ s m cm ad (.next _) Q E X hσ fun s' H' m' cm' ad' X' f mv => cont s' H' m' cm' ad' X' ((h00 _ _ hσ).trans h0) (pa.step hp f mv) f mv.but
theorem expq_cons {st : Stmt} {ss : List Stmt} {d d' : QStm} (h : ExQ P lev env ctx st d) (hr : ExPQ P lev env ctx ss d') : ExPQ P lev env ctx (st :: ss) (qSeq d d') := fun A prot H₀ H σ s m cm ad p c σ' c' Q E X hp h0 pa e cont => by
  unfold qSeq at e
  split at e
  · cases e
  rename_i σ₁ c₁ h1
  refine wpAny_execs_cons (h A prot H₀ H σ s m cm ad p c σ₁ c₁ _ E X hp h0 pa h1 fun s' H' m' cm' ad' X' h0' pa' f mv => ?_)
  exact hr A prot H₀ H' σ₁ s' m' cm' ad' p c₁ σ' c' Q E X' hp h0' pa' e fun s'' H'' m'' cm'' ad'' X'' h0'' pa'' f' mv' => cont s'' H'' m'' cm'' ad'' X'' h0'' pa'' (f.trans f') (mv.tr mv')
theorem forq_core {x : Str} {xp : Pos} {body : List Stmt} {i : Nat} {db : QStm} (hi : ctx[i]? = some x) (hx : NameAt env x) (hi0 : i ≠ 0) (hb : ExPQ P lev env ctx body db)
    {A : Around} {prot H₀ H : HS} {σ σf : Sl} {s s₁ s₂ : Shared} {m cm : Str → Option Value} {ad : Nat → Addr} {p : Addr} {c cf : List PV} {Q : Flow → Shared → Prop} {E : Value → Shared → Prop} {I : Addr} {xs : List PV} {comps : Nat → List PV} {src : HS → Heap → Prop} {fp wr : List Addr} {StI : Nat → Heap → Prop}
    (X : In P lev env ctx A prot H₀ H σ s m cm ad) (hp : prot p) (h0 : σ[0]? = some (.val (.addr p))) (pa : PoolAt P p H₀ H s c) (k₁ : Keeps s s₁) (k₂ : Keeps s₁ s₂) (F : Feed P A I (.Name x xp) xs.length comps src fp wr StI) (hcomps : ∀ (i : Nat) (x : PV),xs[i]? = some x → take1 x = some (comps i)) (hst : StI 0 s₂.heap) (hsrc : src H s₁.heap)
    (hwr : ∀ b ∈ wr,s₁.heap.get? b = none) (hfp : ∀ b ∈ fp,s₁.heap.get? b = none ∨ ¬ H b) (h : forQ i db xs σ c = some (σf,cf)) (cont : QPost P lev env ctx A prot H₀ H p s σf cf Q) :
    codeAny (model P.prog P.w) A (.forLoop (.Name x xp) (.ref I) body [] env) (fun r s' => match r with | .ok f => Q f s' | .error e => cameBackBy (model P.prog P.w) A env E e s') s₂ := by
  have X₁ := X.keeps k₁
  have hlive0 := F.live 0 _ hst
  have nfpH : ∀ b,H b → b ∉ fp := fun b q z => by
    rcases hfp b z with e | e
    · obtain ⟨o,eo⟩ := X₁.st.hb b q; rw [e] at eo; cases eo
    · exact e q
  obtain ⟨X₂,f₂⟩ := X₁.hide (H' := fun b => H b ∨ b ∈ wr) k₂ (fun b q => .inl q) (fun b q => by
    rcases q with q | q
    · exact (X₁.st.hb.keeps (keeps_get k₂)) b q
    · exact hlive0 b (F.sub b q)) (fun b q => q.imp_right fun z => hwr b z)
  have hpw : ∀ b ∈ wr,P.hp.get? b = none := fun b q => by
    cases e : P.hp.get? b with
    | none => rfl
    | some o => have := X₁.st.pg.ext b o e; rw [hwr b q] at this; cases this
  have hprw : ∀ b ∈ wr,¬ prot b := fun b q z => by obtain ⟨o,e⟩ := X₁.pl b z; rw [hwr b q] at e; cases e
  have hpfp : p ∉ fp := nfpH p (X.sub p pa.h0)
  let prot' : HS := fun b => prot b ∨ b ∈ fp
  let H₀' : HS := fun b => H₀ b ∨ b ∈ wr
  have X₃ : In P lev env ctx A prot' H₀' (fun b => H b ∨ b ∈ wr) σ s₂ m cm ad := X₂.protect (fun b q => by
      rcases q with q | q
      · exact X₂.pl b q
      · exact hlive0 b q) (fun b q => by
      rcases q with q | q
      · exact .inl (X.sub b q)
      · exact .inr q) (fun b o e => .inl (X.pgp b o e)) (fun q => by
      rcases q with q | q
      · exact X.loc.2 q
      · exact nfpH _ X.loc.1 q) (fun x c' e q => by
      rcases q with q | q
      · exact (X.cel x c' e).2.1 q
      · exact nfpH _ (X.cel x c' e).1 q) (fun j ys e => ⟨fun q => by
      rcases q with q | q
      · exact (X.own j ys e).1 q
      · exact nfpH _ (own_H X e) q,fun q => by
      rcases q with q | q
      · exact (X.own j ys e).2.1 q
      · exact nfpH _ (own_H X e) (F.sub _ q)⟩)
  have lift : ∀ {H' : HS} {s' : Shared} {c' : List PV},PoolAt P p H₀ H' s' c' → PoolAt P p H₀' H' s' c' := fun q => ⟨.inl q.h0,q.hp,q.us,q.len⟩
  have pa₁ := pa.step hp (keeps_froz k₁) (keeps_moves k₁)
  have pa₂ : PoolAt P p H₀ (fun b => H b ∨ b ∈ wr) s₂ c := pa₁.step hp f₂ (keeps_moves k₂)
  refine codeAny_forLoop_any (fun n s' => ∃ j σ' H' m' cm' ad' c',n = xs.length + 1 - j ∧ j ≤ xs.length ∧ In P lev env ctx A prot' H₀' H' σ' s' m' cm' ad' ∧ σ'[0]? = some (.val (.addr p)) ∧ PoolAt P p H₀' H' s' c' ∧ StI j s'.heap ∧ src H' s'.heap ∧ forQ i db (xs.drop j) σ' c' = some (σf,cf) ∧ Froz H s.heap H' s'.heap ∧ Moves (But prot p) s s') ?_ (xs.length + 1)
    ⟨0,σ,_,m,cm,ad,c,rfl,Nat.zero_le _,X₃,h0,lift pa₂,hst,F.srcm _ _ _ _ f₂ hsrc,by simpa using h,(keeps_froz k₁).trans f₂,keeps_moves (keeps_tr k₁ k₂)⟩
  rintro n s' ⟨j,σ',H',m',cm',ad',c',rfl,hj,X',h0',pa',hst',hsrc',hgo,f',mv'⟩
  have hwH : ∀ b ∈ wr,H' b := fun b q => X'.sub b (.inr q)
  have nL : env.locals ∉ wr := fun q => X'.loc.2 (.inr (F.sub _ q))
  have nC : ∀ x c,env.cells.lookup x = some c → c ∉ wr := fun x c e q => (X'.cel x c e).2.1 (.inr (F.sub _ q))
  have nO : ∀ j ys,σ'[j]? = some (.own ys) → ad' j ∉ wr := fun j ys e q => (X'.own j ys e).1 (.inr (F.sub _ q))
  have wmv : ∀ {s₄ : Shared},Wr wr s' s₄ → Moves prot s' s₄ := fun w => ⟨w.same,fun b o q e => w.keep b o (fun z => hprw b z q) e⟩
  have npw : p ∉ wr := fun q => hpfp (F.sub _ q)
  by_cases hlt : j < xs.length
  · have hxi : xs[j]? = some xs[j] := List.getElem?_eq_getElem hlt
    refine F.item j H' s' _ _ hlt hst' hsrc' hwH fun v sv hgo' => ?_
    refine hgo' env _ _ _ fun s₄ vals rv hst₄ w₄ => ?_
    have hl4 := F.live _ _ hst₄
    obtain ⟨X₄,f₄⟩ := X'.wr w₄ hwH (fun b q => hl4 b (F.sub b q)) (fun b q => by
      by_cases z : b ∈ wr
      · exact .inr (hl4 b (F.sub b z))
      · exact .inl z) nL nC nO hpw
    have pa₄ : PoolAt P p H₀' H' s₄ c' := by
      obtain ⟨us,pl,rp⟩ := pa'.us
      exact ⟨pa'.h0,pa'.hp,⟨us,isList_mono pl fun o e => w₄.keep p o npw e,repL_froz f₄ _ _ rp⟩,pa'.len⟩
    have hcv := hcomps j _ hxi
    have hd : xs.drop j = xs[j] :: xs.drop (j + 1) := List.drop_eq_getElem_cons hlt
    rw [hd] at hgo
    unfold forQ at hgo
    have hb1 : comps j = [xs[j]] := by unfold take1 at hcv; exact (Option.some.inj hcv).symm
    rw [hb1] at rv
    refine for_bind (is := [i]) (names := [x]) (σ' := σ'.set i (.val xs[j])) X₄ (TgtOk.one _ _) rfl (fun a b y ea eb => by
      match a,ea,eb with
      | 0,ea,eb => cases ea; cases eb; exact ⟨hi,hx⟩) rv rfl fun s₅ m₅ cm₅ ad₅ X₅ f₅ mv₅ => ?_
    have hst₅ : StI (j + 1) s₅.heap := F.frame _ _ _ hst₄ fun b q o e => mv₅.keep b o (.inr q) e
    have mono : ∀ {s s' : Shared},Moves prot' s s' → Moves (But prot p) s s' := fun w => w.mono fun b q => .inl q.1
    have pa₅ := pa₄.step (.inl hp) f₅ mv₅
    have h05 : (σ'.set i (.val xs[j]))[0]? = some (.val (.addr p)) := by rw [List.getElem?_set_ne hi0]; exact h0'
    split at hgo
    · cases hgo
    rename_i σ₆ c₆ hbody
    refine hb A prot' H₀' H' _ s₅ m₅ cm₅ ad₅ p c' σ₆ c₆ _ _ X₅ (.inl hp) h05 pa₅ hbody fun s₆ H₆ m₆ cm₆ ad₆ X₆ h06 pa₆ f6 mv6 => ?_
    have ff := f₄.trans (f₅.trans f6)
    exact ⟨xs.length + 1 - (j + 1),by lia,j + 1,σ₆,H₆,m₆,cm₆,ad₆,c₆,rfl,hlt,X₆,h06,pa₆,F.frame _ _ _ hst₅ (fun b q o e => mv6.keep b o ⟨.inr q,fun z => hpfp (z ▸ q)⟩ e),F.srcm _ _ _ _ ff hsrc',hgo,f'.trans ff,mv'.tr ((wmv w₄).but.tr ((mono mv₅).tr (mv6.mono fun b q => ⟨.inl q.1,q.2⟩)))⟩
  · have hin : j = xs.length := by lia
    subst hin
    refine F.done s' _ _ hst' fun s₄ w₄ => ?_
    rw [List.drop_length] at hgo
    unfold forQ at hgo
    cases hgo
    obtain ⟨X₄,f₄⟩ := X'.unhide w₄ hwH nL nC nO hpw (prot := prot) (H₀ := H₀) (fun b q => ⟨.inl q,fun z => hprw b z q⟩) (fun b q => ⟨.inl q,fun z => by
      obtain ⟨o,e⟩ := X₁.st.hb b (X.sub b q); rw [hwr b z] at e; cases e⟩) X.pgp
    obtain ⟨us,pl,rp⟩ := pa'.us
    exact wpAny_execs_nil (cont s₄ _ m' cm' ad' X₄ h0' ⟨pa.h0,pa.hp,⟨us,isList_mono pl fun o e => w₄.keep p o npw e,repL_froz f₄ _ _ rp⟩,pa'.len⟩ (f'.trans f₄) (mv'.tr (wmv w₄).but))
end
end Mine
end
section
open PySem PySem.W PyProof.Rows PySem.Calls
set_option maxRecDepth 100000
set_option maxHeartbeats 800000
namespace Mine
noncomputable def qFor (i : Nat) (n : QDen) (d : QStm) : QStm := fun σ c => match n σ c with
  | some (.int b,c₁) => if okR 0 b then forQ i d (upto 0 (b - 0).toNat) σ c₁ else none
  | _ => none
section
variable {P : Pk} {lev : Nat} {env : Env} {ctx : List Str}
theorem exq_for {f x : Str} {fp xp cp pos : Pos} {e : Expr} {body : List Stmt} {i : Nat} {dn : QDen} {db : QStm} (N : BiName P env f (.type "range")) (he : EvQ P lev env ctx e dn) (hi : ctx[i]? = some x) (hx : NameAt env x) (hi0 : i ≠ 0) (hb : ExPQ P lev env ctx body db)
    (hs : starEach [e] env = (false,eval e env) :: starEach [] env) (hfs : ∀ v,foldedSetIterable (.Call (.Name f fp) [e] [] cp) env v = pure v) :
    ExQ P lev env ctx (.For (.Name x xp) (.Call (.Name f fp) [e] [] cp) body [] pos) (qFor i dn db) := fun A prot H₀ H σ s m cm ad p c σ' c' Q E X hp h0 pa h cont => by
  unfold qFor at h
  split at h
  case h_2 => cases h
  rename_i b c₁ hn
  split at h
  case isFalse => cases h
  rename_i hk
  simp only [okR,Bool.and_eq_true,decide_eq_true_eq] at hk
  have hb1 : b.natAbs ≤ 1000000 := hk.2
  refine wpAny_For ?_ hfs
  rw [eval_call_name]
  refine wpAny_bind (name_builtin X.st N.k N.miss N.boot N.nn N.nd ?_)
  refine PySem.callWith_type (backTo_plain _ (by rw [hs]; rfl)) (wp_args hs ?_)
  refine wpAny_items_cons (he A prot H₀ H σ s m cm ad p c _ _ _ E X hp h0 pa hn fun v s₁ X₁ pa₁ f₁ mv₁ r => wpAny_items_nil ?_) hs
  obtain ⟨t,rfl⟩ := r.int_inv
  refine call_range_1 ?_
  have k2 : Keeps s₁ { s₁ with heap := s₁.heap.push { cls := .type "range",data := .fields #[.int 0 s₁.toks,.int b t,.int 1 (s₁.toks + 1)] },toks := s₁.toks + 1 + 1 } := ⟨_,_,rfl,fun _ _ e => Heap.get?_push_of_some _ e⟩
  have hs1 : Builtin.Range.small 0 b 1 = true := small_one (by decide) (by decide) (by lia) (by lia)
  refine range_src (H := H) (x := x) (p := xp) (n := (b - 0).toNat) X.st.room.handled k2 (IsRange.new _ _ _ _ _ _ _) hs1 ?_ (upto_length _ _) (upto_get _ _) fun I s₂ s₃ comps src fp' wr StI k₂ k₃ F hcomps hst hsrc hwr hfp => ?_
  · rw [rangeSize_one]; split <;> lia
  exact forq_core hi hx hi0 hb X₁ hp h0 pa₁ k₂ k₃ F hcomps hst hsrc hwr hfp h fun s' H' m' cm' ad' X' h0' pa' f' mv' => cont s' H' m' cm' ad' X' h0' pa' (f₁.trans f') (mv₁.tr mv')
end
noncomputable def n_law_parts : List Str := [Str.ofString "pool",Str.ofString "found",Str.ofString "n",Str.ofString "turn",Str.ofString "form",Str.ofString "q",Str.ofString "p",Str.ofString "b"]
noncomputable def b_parts_pick : SDen :=
 (sIf (tand (tcmp eqV (vr 4) (ci 0)) (tcmp ltV (vr 2) (ci 4)))
 (sSeq (sApp 1 (lst [(bin subV (ci 1) (vr 6)),(vr 5)]))
  (sAsg 2 (bin addV (vr 2) (ci 1))))
 (sIf (tand (tcmp eqV (vr 4) (ci 1)) (tcmp ltV (vr 2) (ci 3)))
  (sSeq (sApp 1 (lst [(bin addV (ci 2) (bin modV (vr 6) (ci 4))),(vr 7),(vr 5)]))
   (sAsg 2 (bin addV (vr 2) (ci 2))))
  sNop))
noncomputable def q_parts_turn : QStm :=
  qSeq (qUnp ([4,5,6,7].map (·,false)) (qTpl [qDraw drawD (ci 2),qBin addV (qPure (ci 1)) (qDraw drawD (ci 4)),qDraw drawD (ci 7),qBin subV (qDraw drawD (ci 5)) (qPure (ci 2))])) (qLift b_parts_pick)
noncomputable def q_parts : QStm := qSeq (qLift (sTup [(1,true),(2,false)] [(lst []),(ci 0)])) (qSeq (qFor 3 (qBin addV (qPure (ci 1)) (qDraw drawD (ci 3))) q_parts_turn) (qLift sNop))
noncomputable def ownAt (σ : Sl) (i : Nat) : Option (List PV) := match σ[i]? with
  | some (.own xs) => if xs.length ≤ lenMax then some xs else none
  | _ => none
noncomputable def partsD (p : Addr) (c : List PV) : Option (PV × List PV) := match q_parts ([.val (.addr p)] ++ List.replicate 7 .unset) c with
  | some (σ',c') => (ownAt σ' 1).map fun xs => (.list xs,c')
  | none => none
noncomputable def Keep0 (d : SDen) : Prop := ∀ σ σ',d σ = some (.next σ') → σ'[0]? = σ[0]?
theorem keep0_nop : Keep0 sNop := fun σ σ' h => by unfold sNop at h; cases h; rfl
theorem keep0_asg {i : Nat} {a : Den} (hi : i ≠ 0) : Keep0 (sAsg i a) := fun σ σ' h => by
  unfold sAsg at h
  split at h
  · cases h
  · cases h; rw [List.getElem?_set_ne hi]
theorem keep0_app {i : Nat} {a : Den} (hi : i ≠ 0) : Keep0 (sApp i a) := fun σ σ' h => by
  unfold sApp at h
  split at h
  · cases h
  split at h
  · split at h
    · cases h; rw [List.getElem?_set_ne hi]
    · cases h
  · cases h
theorem keep0_seq {a b : SDen} (ha : Keep0 a) (hb : Keep0 b) : Keep0 (sSeq a b) := fun σ σ' h => by
  unfold sSeq at h
  split at h
  · cases h
  · rename_i σ₁ h1; rw [hb _ _ h,ha _ _ h1]
  · cases h
theorem keep0_if {t : TDen} {a b : SDen} (ha : Keep0 a) (hb : Keep0 b) : Keep0 (sIf t a b) := fun σ σ' h => by
  unfold sIf at h
  split at h
  · cases h
  · exact ha _ _ h
  · exact hb _ _ h
theorem keep0_many : ∀ (ts : List (Nat × Bool)) (vs : List PV) (σ σ' : Sl),(∀ t ∈ ts,t.1 ≠ 0) → setMany ts vs σ = some σ' → σ'[0]? = σ[0]?
  | [],[],_,_,_,h => by cases h; rfl
  | [],v :: vs,_,_,_,h => by simp [sM3,sM4] at h
  | t :: ts,[],_,_,_,h => by simp [sM3,sM4] at h
  | (i,b) :: ts,v :: vs,σ,σ',n,h => by
    have hi : i ≠ 0 := n _ (.head _)
    cases b with
    | false =>
      rw [sM1] at h
      rw [keep0_many ts vs _ _ (fun t q => n t (.tail _ q)) h,List.getElem?_set_ne hi]
    | true =>
      cases v with
      | list xs =>
        rw [sM2] at h
        rw [keep0_many ts vs _ _ (fun t q => n t (.tail _ q)) h,List.getElem?_set_ne hi]
      | _ => exact nomatch (show (none : Option Sl) = some _ from h)
theorem keep0_tup {ts : List (Nat × Bool)} {ds : List Den} (n : ∀ t ∈ ts,t.1 ≠ 0) : Keep0 (sTup ts ds) := fun σ σ' h => by
  unfold sTup at h
  split at h
  · cases h
  split at h
  · cases h
  · rename_i h1; cases h; exact keep0_many _ _ _ _ n h1
theorem keep0_pick : Keep0 b_parts_pick :=
  keep0_if (keep0_seq (keep0_app (by decide)) (keep0_asg (by decide))) (keep0_if (keep0_seq (keep0_app (by decide)) (keep0_asg (by decide))) keep0_nop)
noncomputable def PartsFn (P : Pk) (lev : Nat) (f : Str) (d : Addr → List PV → Option (PV × List PV)) : Prop :=
  ∃ (a : Addr) (fd : FuncData),P.mg f = some (.ref a) ∧ (∃ o,P.hp.get? a = some o ∧ o.data = .func fd) ∧
  ∀ (A : Around) (H : HS) (s : Shared) (p : Addr) (c : List PV) (us : List Value) (pv : PV) (c' : List PV) (Q : Value → Shared → Prop) (E : Value → Shared → Prop),
    Room A lev → PG P s.heap → HB H s.heap → H p → P.hp.get? p = none → s.heap.PlainList p (List.toArray us) → RepL H s.heap c us → c.length ≤ lenMax → d p c = some (pv,c') →
    (∀ v s',(∃ h tk,s' = { s with heap := h,toks := tk }) → (∀ b o,b ≠ p → s.heap.get? b = some o → s'.heap.get? b = some o) → (∃ o,s'.heap.get? p = some o) → Rep H s'.heap pv v → Q v s') →
    wpAny (model P.prog P.w) A (PySem.call (.ref a) [.ref p]) Q E s
theorem parts_body {P : Pk} (M : Miss P) (F : DrawFn P 1 (Str.ofString "_law_draw") drawD) (L a : Addr) (doc pm : Value) (an : Option Addr) (cdv ct : Value) :
    ∃ st₁ st₂ st₃,bodyOf (stAt 43) = [st₁,st₂,st₃] ∧
      ExS P 1 (callEnvC (fnOf (Str.ofString "_law_parts") (Str.ofString "_law_parts") (argsOf (stAt 43)) (bodyOf (stAt 43)) (scopeOf (stAt 43)) .none .none doc pm an cdv ct) L a) n_law_parts st₁ (sTup [(1,true),(2,false)] [(lst []),(ci 0)]) ∧
      ExQ P 1 (callEnvC (fnOf (Str.ofString "_law_parts") (Str.ofString "_law_parts") (argsOf (stAt 43)) (bodyOf (stAt 43)) (scopeOf (stAt 43)) .none .none doc pm an cdv ct) L a) n_law_parts st₂ (qFor 3 (qBin addV (qPure (ci 1)) (qDraw drawD (ci 3))) q_parts_turn) ∧
      ExS P 1 (callEnvC (fnOf (Str.ofString "_law_parts") (Str.ofString "_law_parts") (argsOf (stAt 43)) (bodyOf (stAt 43)) (scopeOf (stAt 43)) .none .none doc pm an cdv ct) L a) n_law_parts st₃ (sRet (vr 1)) := by
  refine ⟨_,_,_,rfl,?_,?_,?_⟩
  · exact ex_swap2 (b₁ := true) (b₂ := false) (by decide) rfl (evf_list evl_nil (by decide)) ev_int (fun _ => rfl) (fun _ => rfl) rfl (.inl rfl) rfl (.inl rfl) rfl rfl
  · refine exq_for (bn_range M rfl) (evq_bin (evq_pure ev_int) (evq_draw F (by decide) rfl rfl rfl rfl rfl ev_int rfl rfl) op_add) rfl (.inl rfl) (by decide) ?_ rfl (fun _ => rfl)
    refine expq_cons (exq_unp (is := [4,5,6,7]) (xs := [(_,_),(_,_),(_,_),(_,_)]) (evq_tuple (evlq_cons (evq_draw F (by decide) rfl rfl rfl rfl rfl ev_int rfl rfl) (evlq_cons (evq_bin (evq_pure ev_int) (evq_draw F (by decide) rfl rfl rfl rfl rfl ev_int rfl rfl) op_add) (evlq_cons (evq_draw F (by decide) rfl rfl rfl rfl rfl ev_int rfl rfl) (evlq_cons (evq_bin (evq_draw F (by decide) rfl rfl rfl rfl rfl ev_int rfl rfl) (evq_pure ev_int) op_sub) evlq_nil rfl) rfl) rfl) rfl) (by decide)) rfl (allNm ⟨⟨rfl,.inl rfl⟩,⟨rfl,.inl rfl⟩,⟨rfl,.inl rfl⟩,⟨rfl,.inl rfl⟩,trivial⟩) (by decide) rfl rfl) (expq_lift ?_ keep0_pick)
    exact (ex_one (ex_if (ts_bool (tsl_and (ts_cmp (ev_local rfl rfl rfl) ev_int oc_eq rfl) (tsl_and1 (ts_cmp (ev_local rfl rfl rfl) ev_int oc_lt rfl))))
      (ex_cons (ex_app rfl rfl rfl (ev_list (evl_cons (ev_bin ev_int (ev_local rfl rfl rfl) op_sub) (evl_cons (ev_local rfl rfl rfl) evl_nil rfl) rfl) (by decide)) rfl rfl rfl rfl rfl rfl)
      (ex_one (ex_asg rfl (.inl rfl) (ev_bin (ev_local rfl rfl rfl) ev_int op_add) rfl)))
      (ex_one (ex_if (ts_bool (tsl_and (ts_cmp (ev_local rfl rfl rfl) ev_int oc_eq rfl) (tsl_and1 (ts_cmp (ev_local rfl rfl rfl) ev_int oc_lt rfl))))
      (ex_cons (ex_app rfl rfl rfl (ev_list (evl_cons (ev_bin ev_int (ev_bin (ev_local rfl rfl rfl) ev_int op_mod) op_add) (evl_cons (ev_local rfl rfl rfl) (evl_cons (ev_local rfl rfl rfl) evl_nil rfl) rfl) rfl) (by decide)) rfl rfl rfl rfl rfl rfl)
      (ex_one (ex_asg rfl (.inl rfl) (ev_bin (ev_local rfl rfl rfl) ev_int op_add) rfl)))
      ex_nil))))
  · exact ex_ret (ev_local rfl rfl rfl)
theorem fn_law_parts {P : Pk} (M : Miss P) (F : DrawFn P 1 (Str.ofString "_law_draw") drawD) (D : Def P 43 (Str.ofString "_law_parts")) : PartsFn P 2 (Str.ofString "_law_parts") partsD := by
  obtain ⟨a,oc,od,osl,doc,pm,an,cdv,ct,hm,hk,hc⟩ := D
  refine ⟨a,_,hm,⟨_,hk,rfl⟩,fun A H s p c us pv c' Q E R G B hp hpg pl rc hlen hd cont => ?_⟩
  unfold partsD at hd
  split at hd
  case h_2 => cases hd
  rename_i σ' c₁ hq
  cases z : ownAt σ' 1 with
  | none => rw [z] at hd; cases hd
  | some xs =>
  rw [z] at hd; cases hd
  have DD : DefOk P (Str.ofString "_law_parts") a ⟨oc,od,.func (fnOf (Str.ofString "_law_parts") (Str.ofString "_law_parts") (argsOf (stAt 43)) (bodyOf (stAt 43)) (scopeOf (stAt 43)) .none .none doc pm an cdv ct),osl⟩ _ [Str.ofString "pool"] (bodyOf (stAt 43)) n_law_parts :=
    ⟨hm,hk,rfl,hc,rfl,(fun vals hv => by
      obtain ⟨v0,rfl⟩ := len1 hv
      rfl),rfl,rfl,rfl,(fun x hx n => by
      simp only [List.mem_cons,List.not_mem_nil,or_false] at hx
      rcases hx with rfl; exact .inl rfl),rfl,rfl,rfl,by decide,rfl⟩
  refine call_entry (lev := 1) DD R G B (xs := [.addr p]) (RepL.cons (by rw [Rep]) RepL.nil) rfl fun L s₁ m cm newL newC same keep1 X => ?_
  obtain ⟨st₁,st₂,st₃,eb,h1,h2,h3⟩ := parts_body M F L a doc pm an cdv ct
  have hpr : ∃ o,s.heap.get? p = some o := by obtain ⟨n,e⟩ := pl; exact ⟨_,e⟩
  have f1 : Froz H s.heap (fun b => H b ∨ b = L ∨ ∃ y,(callEnvC (fnOf (Str.ofString "_law_parts") (Str.ofString "_law_parts") (argsOf (stAt 43)) (bodyOf (stAt 43)) (scopeOf (stAt 43)) .none .none doc pm an cdv ct) L a).cells.lookup y = some b) s₁.heap := fun b o n e => ⟨fun q => (by
    rcases q with q | q | ⟨y,q⟩
    · exact n q
    · rw [q,newL] at e; cases e
    · rw [newC y b q] at e; cases e),keep1 b o e⟩
  have pa : PoolAt P p H _ s₁ c := ⟨hp,hpg,⟨us,isList_mono pl fun o e => keep1 _ o e,repL_froz f1 _ _ rc⟩,hlen⟩
  unfold q_parts qSeq at hq
  split at hq
  · cases hq
  rename_i σ₁ c₁ hq1
  split at hq
  · cases hq
  rename_i σ₂ c₂ hq2
  unfold qLift sNop at hq
  cases hq
  unfold qLift at hq1
  split at hq1
  case h_2 => cases hq1
  rename_i σ₀ he1
  cases hq1
  rw [eb]
  refine execs_step h1 X he1 fun s₂ H₂ m₂ cm₂ ad₂ X₂ f₂ mv₂ => ?_
  have pa₂ := pa.step hpr f₂ mv₂
  have h02 := (keep0_tup (by decide) _ _ he1).trans (show (([.val (.addr p)] ++ List.replicate 7 .unset : Sl))[0]? = some (.val (.addr p)) from rfl)
  refine wpAny_execs_cons (h2 _ _ _ _ _ s₂ _ _ _ p c _ _ _ _ X₂ hpr h02 pa₂ hq2 fun s₃ H₃ m₃ cm₃ ad₃ X₃ h03 pa₃ f₃ mv₃ => ?_)
  have hown : σ'[1]? = some (.own xs) ∧ xs.length ≤ lenMax := by
    unfold ownAt at z
    split at z
    · rename_i ys e
      split at z
      · cases z; exact ⟨e,by assumption⟩
      · cases z
    · cases z
  have hlt := lt_of_get hown.1
  refine ex_frz (i := 1) (ex_one h3) _ _ _ _ _ s₃ _ _ _ (.ret (.list xs)) _ _ X₃ ?_ fun s₄ H₄ u ru h4 f₄ mv₄ => ?_
  · unfold sSeq sFrz sRet vr
    rw [hown.1]
    dsimp only
    rw [if_pos hown.2]
    dsimp only
    rw [List.getElem?_set_self hlt]
  · obtain ⟨h',tk',e1⟩ := same
    have mvall := ((mv₂.but (p := p)).tr mv₃).tr mv₄.but
    obtain ⟨h'',tk'',e2⟩ := mvall.same
    refine cont u s₄ ⟨h'',tk'',by rw [e2,e1]⟩ (fun b o n e => mvall.keep b o ⟨⟨o,e⟩,n⟩ (keep1 b o e)) ?_ ?_
    · obtain ⟨us₃,pl₃,_⟩ := pa₃.us
      obtain ⟨n,e⟩ := pl₃
      exact ⟨_,mv₄.keep p _ hpr e⟩
    · refine rep_froz (fun b o n e => ⟨fun q => n (h4 b q),e⟩) _ _ ru
end Mine
end
section
open PySem PySem.W PyProof.Rows PySem.Calls
set_option maxRecDepth 100000
set_option maxHeartbeats 800000
namespace Mine
noncomputable def intV : PV → Option PV
  | .int i => some (.int i)
  | _ => none
section
variable {P : Pk} {lev : Nat} {env : Env} {ctx : List Str}
theorem ty_int : Op1 P (fun v => PySem.call (.type "int") [v]) intV := fun A lev H s x r a Q E R G B ra e c => by
  unfold intV at e
  split at e
  · cases e
    obtain ⟨t,rfl⟩ := ra.int_inv
    exact call_int_int (c _ _ (keeps_refl s) (Rep.int _ _))
  · cases e
theorem In.forget {A : Around} {prot H₀ H : HS} {σ : Sl} {s : Shared} {m cm : Str → Option Value} {ad : Nat → Addr} {i : Nat} {sl : Slot} (X : In P lev env ctx A prot H₀ H σ s m cm ad) (hi : i < σ.length) (hno : ¬ isOwn sl) (h : ∀ x,ctx[i]? = some x → SlotRep H s.heap (vl env m cm x) (ad i) sl) :
    In P lev env ctx A prot H₀ H (σ.set i sl) s m cm ad := by
  have back : ∀ (j : Nat) (ys : List PV),(σ.set i sl)[j]? = some (.own ys) → σ[j]? = some (.own ys) := fun j ys ej => by
    by_cases q : j = i
    · subst q; rw [List.getElem?_set_self hi] at ej; cases ej; exact (hno trivial).elim
    · rwa [List.getElem?_set_ne (Ne.symm q)] at ej
  refine ⟨⟨X.st.room,X.st.pg,X.st.hb,X.st.ok,⟨X.st.vars.ns,X.st.vars.cells,fun j x sl' hj hσ => ?_⟩⟩,X.pl,X.sub,X.pgp,X.loc,X.cel,X.inj,fun j ys e => X.own j ys (back j ys e),fun j k ys zs ej ek n => X.apart j k ys zs (back j ys ej) (back k zs ek) n,X.nd,by rw [List.length_set]; exact X.sz⟩
  by_cases q : j = i
  · subst q
    rw [List.getElem?_set_self hi] at hσ
    cases hσ
    exact h x hj
  · rw [List.getElem?_set_ne (fun z => q z.symm)] at hσ
    exact X.st.vars.slot j x sl' hj hσ
theorem parts_asg {lev' : Nat} {f : Str} {d : Addr → List PV → Option (PV × List PV)} {xpool xp xf : Str} {tgts : List Expr} {k k' kc : Nat} {fp pp cp lp ip tp vp pos : Pos} (F : PartsFn P lev' f d) (hl : lev' ≤ lev) (hk : env.kindOf f = some .globalImplicit) (hd : (f == ("__debug__" : Str)) = false)
    (h1 : ctx[1]? = some xpool) (hx1 : env.kindOf xpool = some .local) (hxd : (xpool == ("__debug__" : Str)) = false) (h2 : ctx[2]? = some xp) (hx2 : NameAt env xp) (h3 : ctx[3]? = some xf) (hx3 : NameAt env xf)
    (hs₁ : ∀ r,starEach (.Call (.Name f fp) [.Name xpool pp] [] cp :: r) env = (false,eval (.Call (.Name f fp) [.Name xpool pp] [] cp) env) :: starEach r env)
    (hs₂ : ∀ r,starEach (.List [.Constant (.int 1) kc ip] lp :: r) env = (false,eval (.List [.Constant (.int 1) kc ip] lp) env) :: starEach r env)
    (hs₃ : starEach [.Name xpool pp] env = (false,eval (.Name xpool pp) env) :: starEach [] env)
    (hs : swapsWithSole [.Tuple tgts k tp] (.Tuple [.Call (.Name f fp) [.Name xpool pp] [] cp,.List [.Constant (.int 1) kc ip] lp] k' vp) pos.line env = pure false)
    (hw : swappedStores [.Tuple tgts k tp] (.Tuple [.Call (.Name f fp) [.Name xpool pp] [] cp,.List [.Constant (.int 1) kc ip] lp] k' vp) env = pure (some [xp,xf]))
    {A : Around} {prot H₀ H : HS} {σ : Sl} {s : Shared} {m cm : Str → Option Value} {ad : Nat → Addr} {c c' : List PV} {pv : PV} {Q : Flow → Shared → Prop} {E : Value → Shared → Prop}
    (X : In P lev env ctx A prot H₀ H σ s m cm ad) (ho : σ[1]? = some (.own c)) (hlen : c.length ≤ lenMax) (e : d (ad 1) c = some (pv,c'))
    (cont : ∀ s' m' cm' ad',In P lev env ctx A prot H₀ H (((σ.set 1 .unset).set 2 (.val pv)).set 3 (.val (.list [.int 1]))) s' m' cm' ad' → Moves prot s s' → Q .next s') :
    wpAny (model P.prog P.w) A (exec (.Assign [.Tuple tgts k tp] (.Tuple [.Call (.Name f fp) [.Name xpool pp] [] cp,.List [.Constant (.int 1) kc ip] lp] k' vp) pos) env) Q E s := by
  obtain ⟨a,fd,hm,⟨o,hof,hofd⟩,hf⟩ := F
  have hlt := lt_of_get ho
  have O := X.own 1 c ho
  obtain ⟨hv1,hH1,us,pl,rp⟩ := X.st.vars.slot 1 xpool _ h1 ho
  have X0 := X.forget (sl := .val (.addr (ad 1))) hlt (fun q => q) fun x hx => by
    rw [h1] at hx; cases hx
    exact ⟨.ref (ad 1),hv1,by rw [Rep]⟩
  have hpg : P.hp.get? (ad 1) = none := by
    cases z : P.hp.get? (ad 1) with
    | none => rfl
    | some o => exact (O.1 (X.pgp _ _ z)).elim
  refine Assign_Tuple_swapped (wpAny_Tuple ?_) hs hw
  refine wpAny_items_cons ?_ (hs₁ _)
  rw [eval_call_name]
  refine wpAny_bind (name_def X0.st hk hm hd ?_)
  refine callWith_function (o := o) (fd := fd) (wp_args hs₃ ?_)
  refine wpAny_items_cons (ev_local h1 hx1 hxd A H _ s m cm ad (.addr (ad 1)) _ E X0.st (by unfold vr; rw [List.getElem?_set_self hlt]) fun v s₁ k₁ r => wpAny_items_nil ?_) hs₃
  rw [Rep] at r; subst r
  have X1 := X0.keeps k₁
  refine ⟨⟨X1.st.pg.kin a o hof,hofd⟩,?_⟩
  refine hf A H s₁ (ad 1) c us pv c' _ E (X1.st.room.down hl) X1.st.pg X1.st.hb hH1 hpg (isList_mono pl fun o e => keeps_get k₁ _ o e) (rp.keeps k₁) hlen e fun v s₂ same keep live rv => ?_
  obtain ⟨h₂,tk₂,e₂⟩ := same
  have one : ∀ b,b ∈ [ad 1] → b = ad 1 := fun b q => by simpa using q
  have w : Wr [ad 1] s₁ s₂ := ⟨⟨h₂,tk₂,e₂⟩,fun b o n e => keep b o (fun q => n (q ▸ .head _)) e⟩
  obtain ⟨X2,f₂⟩ := X1.wr w (fun b q => one b q ▸ hH1) (fun b q => by rw [one b q]; exact live) (fun b q => by
      by_cases z : b = ad 1
      · rw [z]; exact .inr live
      · exact .inl fun q => z (one b q)) (fun q => O.2.2.1 (one _ q).symm) (fun y c e q => O.2.2.2 y c e (one _ q).symm) (fun j ys e q => by
      by_cases z : j = 1
      · subst z; rw [List.getElem?_set_self hlt] at e; cases e
      · rw [List.getElem?_set_ne (Ne.symm z)] at e; exact X.apart j 1 ys c e ho z (one _ q)) (fun b q => one b q ▸ hpg)
  have mv₂ : Moves prot s₁ s₂ := ⟨⟨h₂,tk₂,e₂⟩,fun b o q e => keep b o (fun z => O.1 (z ▸ q)) e⟩
  refine wpAny_items_cons (ev_list (ds := [ci 1]) (evl_cons ev_int evl_nil rfl) (by decide) A H _ s₂ m cm ad (.list [.int 1]) _ E X2.st rfl fun u s₃ k₃ ru => wpAny_items_nil ?_) (hs₂ _)
  refine ⟨by rw [sizeLine_val]; simp,?_⟩
  have k₄ := keeps_push s₃ { cls := .type "tuple",data := .seq (List.toArray [v,u]) }
  refine unpack_keeps X.st.room.handled ⟨_,Heap.get?_push_size _ rfl,rfl,0,rfl⟩ rfl fun s₅ k₅ => ?_
  have k35 := keeps_tr k₃ (keeps_tr k₄ k₅)
  have X5 := (X2.keeps k35).forget (i := 1) (sl := .unset) (by simpa using hlt) (fun q => q) fun x hx => trivial
  rw [List.set_set] at X5
  refine store_list [⟨3,xf,.val (.list [.int 1]),u,0⟩,⟨2,xp,.val pv,v,0⟩] _ s₅ m cm ad X5 ?_ ?_ ?_ ?_ fun s' m' cm' ad' X' f mv => ?_
  · intro e he
    simp only [List.mem_cons,List.not_mem_nil,or_false] at he
    rcases he with rfl | rfl
    · exact ⟨h3,hx3⟩
    · exact ⟨h2,hx2⟩
  · intro e he
    simp only [List.mem_cons,List.not_mem_nil,or_false] at he
    rcases he with rfl | rfl
    · exact ru.keeps (keeps_tr k₄ k₅)
    · exact rv.keeps k35
  · intro e he ho
    simp only [List.mem_cons,List.not_mem_nil,or_false] at he
    rcases he with rfl | rfl <;> exact ho.elim
  · refine ⟨fun o => o.elim,(fun _ _ hg => nomatch hg),trivial⟩
  · have hset : ([⟨3,xf,.val (.list [.int 1]),u,0⟩,⟨2,xp,.val pv,v,0⟩] : List Sto).foldl (fun σ e => σ.set e.i e.sl) (σ.set 1 .unset) = ((σ.set 1 .unset).set 2 (.val pv)).set 3 (.val (.list [.int 1])) := List.set_comm _ _ (show (3:Nat) ≠ 2 by decide)
    rw [hset] at X'
    exact cont s' m' cm' ad' X' ((keeps_moves k₁).tr (mv₂.tr ((keeps_moves k35).tr mv)))
end
end Mine
end
section
open PySem PySem.W PyProof.Rows PySem.Calls
set_option maxRecDepth 100000
set_option maxHeartbeats 800000
namespace Mine
theorem code_entry {P : Pk} {lev : Nat} {f : Str} {a : Addr} {o : Obj} {fd : FuncData} {argn : List Str} {body : List Stmt} {ctx : List Str} (D : DefOk P f a o fd argn body ctx)
    {A : Around} {H : HS} {s : Shared} {xs : List PV} {vs : List Value} {Rs : Result → Shared → Prop} (hdep : A.depth < recursionLimit) (hR : ∀ env,EnvOk env → Room (A.deeper env) lev) (G : PG P s.heap) (B : HB H s.heap) (rs : RepL H s.heap xs vs) (hlen : xs.length = argn.length)
    (hb : ∀ (L : Addr) (s₁ : Shared) (m cm : Str → Option Value),s.heap.get? L = none → (∀ y c',(callEnvC fd L a).cells.lookup y = some c' → s.heap.get? c' = none) → (∃ h tk,s₁ = { s with heap := h,toks := tk }) → (∀ b o,s.heap.get? b = some o → s₁.heap.get? b = some o) →
      In P lev (callEnvC fd L a) ctx (A.deeper (callEnvC fd L a)) (fun b => ∃ o,s.heap.get? b = some o) H (fun b => H b ∨ b = L ∨ ∃ y,(callEnvC fd L a).cells.lookup y = some b) (xs.map .val ++ List.replicate (ctx.length - xs.length) .unset) s₁ m cm (fun _ => 0) →
      wpAny (model P.prog P.w) (A.deeper (callEnvC fd L a)) (execs body (callEnvC fd L a)) (fun f s' => Rs (.ok (.ret (match f with | .ret v => v | _ => .none))) s')
        (fun e s' => wpAny (model P.prog P.w) (A.deeper (callEnvC fd L a)) (leaving (callEnvC fd L a) e) (fun _ s'' => Rs (.error e) s'') (fun e' s'' => Rs (.error e') s'') s') s₁) :
    codeAny (model P.prog P.w) A (.call (.ref a) ⟨vs,[]⟩) Rs s := by
  have hvl := rs.length
  have nda : argn.Nodup := D.pre ▸ D.nd.take
  have hle : argn.length ≤ ctx.length := by rw [← D.pre]; simp; lia
  refine (codeAny_call_cells hdep (G.kin a o D.at_) D.data G.nolimit (D.code.keeps G.ext) D.body (D.binds vs (by lia)) D.clos (fun x hx => ?_) (fun s₁ x => ?_) D.cor D.gen D.kind)
  · have := D.kinds x.1 (List.of_mem_zip hx).1 (s.heap.objs.size + 1)
    exact this
  let env := callEnvC fd s.heap.objs.size a
  have hL : env.locals = s.heap.objs.size := rfl
  have ok : EnvOk env := ⟨D.kind,D.glb,D.blt,D.gen,D.cor⟩
  have keep1 := x.toInCall.keep
  obtain ⟨h₁,tk₁,e₁⟩ := x.toInCall.same
  have newL : s.heap.get? env.locals = none := get_none_of_new
  have newC : ∀ y c',env.cells.lookup y = some c' → s.heap.get? c' = none := fun y c' e => get_none_of_ge (by
    have := x.above y c' (mem_of_lookup e)
    exact Nat.le_of_lt this)
  let H' : HS := fun b => H b ∨ b = env.locals ∨ ∃ y,env.cells.lookup y = some b
  have f1 : Froz H s.heap H' s₁.heap := fun b o n e => ⟨fun q => (by
    rcases q with q | q | ⟨y,q⟩
    · exact n q
    · rw [q,newL] at e; cases e
    · rw [newC y b q] at e; cases e),keep1 b o e⟩
  let σ : Sl := xs.map .val ++ List.replicate (ctx.length - xs.length) .unset
  have hσo : ∀ (i : Nat) (ys : List PV),σ[i]? = some (.own ys) → False := fun i ys e => by
    by_cases q : i < xs.length
    · rw [List.getElem?_append_left (by simpa using q),List.getElem?_map] at e
      cases z : xs[i]? with
      | none => rw [z] at e; cases e
      | some w => rw [z] at e; cases e
    · rw [List.getElem?_append_right (by simp; lia)] at e
      have := List.mem_of_getElem? e
      rw [List.mem_replicate] at this
      cases this.2
  have X : In P lev env ctx (A.deeper env) (fun b => ∃ o,s.heap.get? b = some o) H H' σ s₁ (bindL env.kindOf (argn.zip vs) fun _ => none) (bindC env.kindOf (argn.zip vs) fun _ => none) (fun _ => 0) := by
    refine ⟨⟨hR _ ok,G.keeps keep1,fun b q => ?_,ok,⟨x.toInCall.ns,x.cell,fun i y sl hi hs => ?_⟩⟩,fun b ⟨o,e⟩ => ⟨o,keep1 b o e⟩,fun b q => .inl q,fun b o e => ⟨o,G.ext b o e⟩,⟨.inr (.inl rfl),fun ⟨o,e⟩ => (by rw [newL] at e; cases e)⟩,
      fun y c' e => ⟨.inr (.inr ⟨y,e⟩),fun ⟨o,e'⟩ => (by rw [newC y c' e] at e'; cases e'),fun q => ?_⟩,fun y z c' e e' => name_of_addr x.apart (mem_of_lookup e) (mem_of_lookup e'),fun i ys e => (hσo i ys e).elim,fun i j ys zs e => (hσo i ys e).elim,D.nd,?_⟩
    · rcases q with q | q | ⟨y,q⟩
      · obtain ⟨o,e⟩ := B b q; exact ⟨o,keep1 b o e⟩
      · obtain ⟨o,_,_,e,_⟩ := x.toInCall.ns; exact ⟨o,q ▸ e⟩
      · obtain ⟨o,e,_⟩ := x.cell y b q; exact ⟨o,e⟩
    · by_cases q : i < xs.length
      · rw [List.getElem?_append_left (by simpa using q),List.getElem?_map] at hs
        cases z : xs[i]? with
        | none => rw [z] at hs; cases hs
        | some w =>
          rw [z] at hs; cases hs
          obtain ⟨u,hu,ru⟩ := rs.get z
          refine ⟨u,?_,rep_froz f1 _ _ ru⟩
          have hiy : argn[i]? = some y := by
            rw [← D.pre,List.getElem?_take,if_pos (by lia)]; exact hi
          exact bind_get env.kindOf argn vs _ _ i y u nda (by lia) hiy hu
      · rw [List.getElem?_append_right (by simp; lia)] at hs
        have := List.mem_of_getElem? hs
        rw [List.mem_replicate] at this
        rw [this.2]; trivial
    · have := x.above y c' (mem_of_lookup e)
      exact Nat.lt_irrefl _ (q ▸ this : @LT.lt Nat _ c' c')
    · simp only [σ,List.length_append,List.length_map,List.length_replicate]; lia
  exact hb _ s₁ _ _ newL newC ⟨h₁,tk₁,e₁⟩ keep1 X
noncomputable def d_pool : Den := lst [(comp (itv (bin sliceToV (vr 0) (ci 13))) take1 [] ttrue (una intV (vr 0))),(ci 0)]
theorem law_rest {P : Pk} (M : Miss P) (fn_zmul : Fn P 1 (Str.ofString "zmul") d_zmul) (fn_zshift : Fn P 1 (Str.ofString "zshift") d_zshift) (fn_law_row : Fn P 2 (Str.ofString "_law_row") d_law_row) (fn_law_changes : Fn P 1 (Str.ofString "_law_changes") d_law_changes) (fn_law_between : Fn P 2 (Str.ofString "_law_between") d_law_between) (fn_count_roots : Fn P 9 (Str.ofString "count_roots") d_count_roots) (L a : Addr) (doc pm : Value) (an : Option Addr) (cdv ct : Value) :
    ExP P 9 (callEnvC (fnOf (Str.ofString "law") (Str.ofString "law") (argsOf (stAt 48)) (bodyOf (stAt 48)) (scopeOf (stAt 48)) .none .none doc pm an cdv ct) L a) n_law ((bodyOf (stAt 48)).drop 2) b_law :=
  (ex_cons (ex_for (TgtOk.one _ _) rfl (allN ⟨⟨rfl,(.inl rfl)⟩,trivial⟩) (it_name (ev_local rfl rfl rfl))
  (ex_one (ex_asg rfl (.inl rfl) (ev_def fn_zmul (by decide) rfl rfl (evl_cons (ev_local rfl rfl rfl) (evl_cons (ev_local rfl rfl rfl) evl_nil rfl) rfl) rfl) rfl)) (fun _ => rfl))
  (ex_cons (ex_tupN (is := [5,6]) (xs := [(_,_),(_,_)]) (evl_cons (ev_bin (ev_bi1 (bn_len M rfl) (ev_local rfl rfl rfl) rfl bi_len) ev_int op_sub) (evl_cons (ev_comp (compOk (frn := []) rfl trivial rfl rfl rfl rfl rfl rfl trivial) (TgtOk.one _ _) (it_name (ev_local rfl rfl rfl)) take1_len (fun C => (.inr ⟨_,rfl,(ts_cmp (ev_bi1 (bn_len M rfl) (ev_local rfl rfl rfl) rfl bi_len) ev_int oc_eq rfl)⟩)) (fun C => (ev_tuple (evl_cons (ev_bin ev_int (ev_idx (ev_local rfl rfl rfl) ev_int (subOk fun _ _ => rfl)) op_sub) (evl_cons (ev_idx (ev_local rfl rfl rfl) ev_int (subOk fun _ _ => rfl)) evl_nil rfl) rfl) (by decide))) (fun _ => rfl)) evl_nil rfl) rfl) rfl (by decide) (allNm ⟨⟨rfl,(.inr ⟨rfl,_,rfl⟩)⟩,⟨rfl,(.inl rfl)⟩,trivial⟩) rfl rfl)
  (ex_cons (ex_asg_comp rfl (.inl rfl) (compOk (frn := [Str.ofString "n"]) rfl ⟨rfl,trivial⟩ rfl rfl rfl rfl rfl rfl ⟨⟨rfl,rfl,fun _ => rfl⟩,trivial⟩) (TgtOk.two _ _ _ _ _ _ (by decide)) (it_enum (bn_enumerate M rfl) (ev_local rfl rfl rfl) rfl) take2_len (fun C => (.inl ⟨rfl,rfl⟩)) (fun C => (ev_bin (ev_local rfl rfl rfl) (ev_bin ev_int (ev_bin (ev_cell rfl rfl rfl rfl) (ev_local rfl rfl rfl) op_sub) op_pow) op_mul)) (fun _ => rfl) rfl)
  (ex_cons (ex_asg rfl (.inl rfl) (ev_list (evl_cons (ev_local rfl rfl rfl) (evl_cons (ev_local rfl rfl rfl) (evl_cons (ev_def fn_zshift (by decide) rfl rfl (evl_cons (ev_local rfl rfl rfl) (evl_cons ev_int evl_nil rfl) rfl) rfl) evl_nil rfl) rfl) rfl) (by decide)) rfl)
  (ex_cons (ex_own rfl (.inl rfl) (evf_list (evl_cons (ev_bi1 (bn_len M rfl) (ev_comp (compOk (frn := []) rfl trivial rfl rfl rfl rfl rfl rfl trivial) (TgtOk.two _ _ _ _ _ _ (by decide)) (it_pairs (ev_local rfl rfl rfl)) take2_len (fun C => (.inr ⟨_,rfl,(ts_chain ev_int (ev_local rfl rfl rfl) (ev_local rfl rfl rfl) oc_lt oc_lt rfl)⟩)) (fun C => ev_int) (fun _ => rfl)) rfl bi_len) (evl_cons (ev_bi1 (bn_len M rfl) (ev_comp (compOk (frn := []) rfl trivial rfl rfl rfl rfl rfl rfl trivial) (TgtOk.two _ _ _ _ _ _ (by decide)) (it_pairs (ev_local rfl rfl rfl)) take2_len (fun C => (.inr ⟨_,rfl,(ts_chain ev_int (ev_bin ev_int (ev_local rfl rfl rfl) op_mul) (ev_local rfl rfl rfl) oc_lt oc_lt rfl)⟩)) (fun C => ev_int) (fun _ => rfl)) rfl bi_len) evl_nil rfl) rfl) (by decide)) rfl)
  (ex_cons (ex_app rfl rfl rfl (ev_bi1 (bn_len M rfl) (ev_comp (compOk (frn := []) rfl trivial rfl rfl rfl rfl rfl rfl trivial) (TgtOk.two _ _ _ _ _ _ (by decide)) (it_pairs (ev_local rfl rfl rfl)) take2_len (fun C => (.inr ⟨_,rfl,(ts_chain (ev_local rfl rfl rfl) (ev_bin ev_int (ev_local rfl rfl rfl) op_mul) (ev_bin ev_int (ev_local rfl rfl rfl) op_mul) oc_lt oc_lt rfl)⟩)) (fun C => ev_int) (fun _ => rfl)) rfl bi_len) rfl rfl rfl rfl rfl rfl)
  (ex_cons (ex_own rfl (.inl rfl) (evf_list evl_nil (by decide)) rfl)
  (ex_frz (ex_cons (ex_for (TgtOk.two _ _ _ _ _ _ (by decide)) rfl (allN ⟨⟨rfl,(.inl rfl)⟩,⟨rfl,(.inl rfl)⟩,trivial⟩) (it_zip (bn_zip M rfl) (ev_local rfl rfl rfl) (ev_local rfl rfl rfl) rfl rfl)
  (ex_cons (ex_asg rfl (.inl rfl) (ev_def fn_law_row (by decide) rfl rfl (evl_cons (ev_local rfl rfl rfl) evl_nil rfl) rfl) rfl)
   (ex_cons (ex_if (ts_cmp (ev_rev (ev_def fn_zshift (by decide) rfl rfl (evl_cons (ev_rev (ev_local rfl rfl rfl) (ev_una ev_int op_neg) (subOk fun _ _ => rfl)) (evl_cons ev_int evl_nil rfl) rfl) rfl) (ev_una ev_int op_neg) (subOk fun _ _ => rfl)) (ev_local rfl rfl rfl) oc_ne rfl)
   (ex_one (ex_ret ev_bool))
   ex_nil)
   (ex_cons (ex_app rfl rfl rfl (ev_def fn_law_changes (by decide) rfl rfl (evl_cons (ev_local rfl rfl rfl) evl_nil rfl) rfl) rfl rfl rfl rfl rfl rfl)
   (ex_one (ex_if (ts_bool (tsl_or (ts_cmp (ev_idxO rfl rfl rfl (ev_una ev_int op_neg) (subOk fun _ _ => rfl)) (ev_local rfl rfl rfl) oc_lt rfl) (tsl_or (ts_cmp (ev_bin (ev_bin (ev_idxO rfl rfl rfl (ev_una ev_int op_neg) (subOk fun _ _ => rfl)) (ev_local rfl rfl rfl) op_sub) ev_int op_mod) ev_int oc_ne rfl) (tsl_or1 (ts_not (ts_val (ev_def fn_law_between (by decide) rfl rfl (evl_cons (ev_local rfl rfl rfl) (evl_cons (ev_local rfl rfl rfl) evl_nil rfl) rfl) rfl) (fun _ => rfl)))))))
   (ex_one (ex_ret ev_bool))
   ex_nil))))) (fun _ => rfl))
  (ex_cons (ex_asg rfl (.inl rfl) (ev_bin (ev_bin (ev_bin (ev_idxO rfl rfl rfl ev_int (subOk fun _ _ => rfl)) (ev_idxO rfl rfl rfl ev_int (subOk fun _ _ => rfl)) op_sub) (ev_idxO rfl rfl rfl ev_int (subOk fun _ _ => rfl)) op_sub) (ev_bi1 (bn_len M rfl) (ev_comp (compOk (frn := []) rfl trivial rfl rfl rfl rfl rfl rfl trivial) (TgtOk.two _ _ _ _ _ _ (by decide)) (it_pairs (ev_local rfl rfl rfl)) take2_len (fun C => (.inr ⟨_,rfl,(ts_cmp (ev_bin ev_int (ev_local rfl rfl rfl) op_mul) (ev_local rfl rfl rfl) oc_eq rfl)⟩)) (fun C => ev_int) (fun _ => rfl)) rfl bi_len) op_sub) rfl)
  (ex_cons (ex_asg rfl (.inl rfl) (ev_bi1 (bn_len M rfl) (ev_ty1 (bn_set M rfl) (ev_comp (compOk (frn := []) rfl trivial rfl rfl rfl rfl rfl rfl trivial) (TgtOk.two _ _ _ _ _ _ (by decide)) (it_pairs (ev_local rfl rfl rfl)) take2_len (fun C => (.inr ⟨_,rfl,(ts_chain ev_int (ev_local rfl rfl rfl) (ev_local rfl rfl rfl) oc_lt oc_le rfl)⟩)) (fun C => (ev_bin (ev_bin (ev_local rfl rfl rfl) ev_int op_mul) (ev_local rfl rfl rfl) op_fdiv)) (fun _ => rfl)) rfl ty_set) rfl bi_len) rfl)
  (ex_one (ex_ret (ev_and3 (ev_cmp (ev_local rfl rfl rfl) ev_int oc_ge rfl) (ev_cmp (ev_bin (ev_local rfl rfl rfl) ev_int op_mod) ev_int oc_eq rfl) (ev_cmp (ev_def fn_count_roots (by decide) rfl rfl (evl_cons (ev_local rfl rfl rfl) (evl_cons (ev_tuple (evl_cons ev_int (evl_cons ev_int evl_nil rfl) rfl) (by decide)) (evl_cons (ev_tuple (evl_cons ev_int (evl_cons ev_int evl_nil rfl) rfl) (by decide)) evl_nil rfl) rfl) rfl) rfl) (ev_local rfl rfl rfl) oc_eq rfl)))))))))))))))
theorem law_first {P : Pk} (M : Miss P) (F : PartsFn P 2 (Str.ofString "_law_parts") partsD) (L a : Addr) (doc pm : Value) (an : Option Addr) (cdv ct : Value) :
    ∃ st₁ st₂,bodyOf (stAt 48) = st₁ :: st₂ :: (bodyOf (stAt 48)).drop 2 ∧
      ExS P 9 (callEnvC (fnOf (Str.ofString "law") (Str.ofString "law") (argsOf (stAt 48)) (bodyOf (stAt 48)) (scopeOf (stAt 48)) .none .none doc pm an cdv ct) L a) n_law st₁ (sOwn 1 d_pool) ∧
      ∀ {A : Around} {prot H₀ H : HS} {σ : Sl} {s : Shared} {m cm : Str → Option Value} {ad : Nat → Addr} {c c' : List PV} {pv : PV} {Q : Flow → Shared → Prop} {E : Value → Shared → Prop},
        In P 9 (callEnvC (fnOf (Str.ofString "law") (Str.ofString "law") (argsOf (stAt 48)) (bodyOf (stAt 48)) (scopeOf (stAt 48)) .none .none doc pm an cdv ct) L a) n_law A prot H₀ H σ s m cm ad → σ[1]? = some (.own c) → c.length ≤ lenMax → partsD (ad 1) c = some (pv,c') →
        (∀ s' m' cm' ad',In P 9 (callEnvC (fnOf (Str.ofString "law") (Str.ofString "law") (argsOf (stAt 48)) (bodyOf (stAt 48)) (scopeOf (stAt 48)) .none .none doc pm an cdv ct) L a) n_law A prot H₀ H (((σ.set 1 .unset).set 2 (.val pv)).set 3 (.val (.list [.int 1]))) s' m' cm' ad' → Moves prot s s' → Q .next s') →
        wpAny (model P.prog P.w) A (exec st₂ (callEnvC (fnOf (Str.ofString "law") (Str.ofString "law") (argsOf (stAt 48)) (bodyOf (stAt 48)) (scopeOf (stAt 48)) .none .none doc pm an cdv ct) L a)) Q E s := by
  refine ⟨_,_,rfl,?_,fun X ho hlen e cont => ?_⟩
  · exact ex_own rfl (.inl rfl) (evf_list (evl_cons (ev_comp (compOk (frn := []) rfl trivial rfl rfl rfl rfl rfl rfl trivial) (TgtOk.one _ _) (it_name (ev_sliceTo (ev_local rfl rfl rfl) ev_int (subOkS fun _ _ => rfl))) take1_len (fun C => (.inl ⟨rfl,rfl⟩)) (fun C => (ev_ty1 (bn_int M rfl) (ev_local rfl rfl rfl) rfl ty_int)) (fun _ => rfl)) (evl_cons ev_int evl_nil rfl) rfl) (by decide)) rfl
  · exact parts_asg F (by decide) rfl rfl rfl rfl rfl rfl (.inl rfl) rfl (.inl rfl) (fun _ => rfl) (fun _ => rfl) rfl rfl rfl X ho hlen e cont
end Mine
end
section
open PySem PySem.W PyProof.Rows PySem.Calls
set_option maxRecDepth 100000
set_option maxHeartbeats 800000
namespace Mine
theorem compGo_int : ∀ (l : List Int),compGo take1 [] ttrue (una intV (vr 0)) (l.map .int) = some (l.map .int)
  | [] => rfl
  | i :: r => by
    simp only [List.map_cons,compGo,take1,compGo_int r]
    rfl
theorem d_pool_eq (l : List Int) (hl : l.length ≤ lenMax) (r : Sl) : d_pool (.val (.list (l.map .int)) :: r) = some (.list [.list ((l.take 13).map .int),.int 0]) := by
  have h1 : bin sliceToV (vr 0) (ci 13) (.val (.list (l.map .int)) :: r) = some (.list ((l.take 13).map .int)) := by
    show (if (0 : Int) ≤ 13 ∧ (13 : Int).natAbs ≤ lenMax then some (PV.list ((l.map PV.int).take 13)) else none) = _
    rw [if_pos (by decide),List.map_take]
  have h2 : comp (itv (bin sliceToV (vr 0) (ci 13))) take1 [] ttrue (una intV (vr 0)) (.val (.list (l.map .int)) :: r) = some (.list ((l.take 13).map .int)) := by
    unfold comp itv
    rw [h1]
    show (if ((l.take 13).map PV.int).length ≤ lenMax ∧ ((l.take 13).map PV.int).all (fun x => (take1 x).isSome) = true then _ else _) = _
    rw [if_pos ⟨by simp; lia,by rw [List.all_eq_true]; intro x _; rfl⟩]
    show (match compGo take1 [] ttrue (una intV (vr 0)) ((l.take 13).map .int) with | none => none | some ys => some (PV.list ys)) = _
    rw [compGo_int]
  unfold d_pool lst evs
  rw [h2]
  rfl
theorem repL_ints {H : HS} {h : Heap} {vs : List Value} {l : List Int} (q : IntsAre vs l) : RepL H h (l.map PV.int) vs := by
  induction q with
  | nil => exact RepL.nil
  | cons n t _ ih => exact RepL.cons (Rep.int _ _) ih
theorem law_run {P : Pk} (M : Miss P) (D : Def P 48 (Str.ofString "law")) (F : PartsFn P 2 (Str.ofString "_law_parts") partsD)
    (fn_zmul : Fn P 1 (Str.ofString "zmul") d_zmul) (fn_zshift : Fn P 1 (Str.ofString "zshift") d_zshift) (fn_law_row : Fn P 2 (Str.ofString "_law_row") d_law_row) (fn_law_changes : Fn P 1 (Str.ofString "_law_changes") d_law_changes) (fn_law_between : Fn P 2 (Str.ofString "_law_between") d_law_between) (fn_count_roots : Fn P 9 (Str.ofString "count_roots") d_count_roots)
    {A : Around} {s : Shared} {q : Addr} {l : List Int} {vs : List Value} {Rs : Result → Shared → Prop} (hdep : A.depth < recursionLimit) (hR : ∀ env,EnvOk env → Room (A.deeper env) 9) (G : PG P s.heap) (pl : s.heap.PlainList q (List.toArray vs)) (hI : IntsAre vs l) (hlen : l.length ≤ lenMax)
    (law : ∀ p,∃ pv c',partsD p [.list ((l.take 13).map .int),.int 0] = some (pv,c') ∧ lawOf pv = some (.bool true))
    (cont : ∀ s',(∃ h tk,s' = { s with heap := h,toks := tk }) → (∀ b o,s.heap.get? b = some o → s'.heap.get? b = some o) → Rs (.ok (.ret (.bool true))) s') :
    ∃ a,P.mg (Str.ofString "law") = some (.ref a) ∧ codeAny (model P.prog P.w) A (.call (.ref a) ⟨[.ref q],[]⟩) Rs s := by
  obtain ⟨a,oc,od,osl,doc,pm,an,cdv,ct,hm,hk,hc⟩ := D
  refine ⟨a,hm,?_⟩
  have DD : DefOk P (Str.ofString "law") a ⟨oc,od,.func (fnOf (Str.ofString "law") (Str.ofString "law") (argsOf (stAt 48)) (bodyOf (stAt 48)) (scopeOf (stAt 48)) .none .none doc pm an cdv ct),osl⟩ _ [Str.ofString "script"] (bodyOf (stAt 48)) n_law :=
    ⟨hm,hk,rfl,hc,rfl,(fun vals hv => by
      obtain ⟨v0,rfl⟩ := len1 hv
      rfl),rfl,rfl,rfl,(fun x hx n => by
      simp only [List.mem_cons,List.not_mem_nil,or_false] at hx
      rcases hx with rfl; exact .inl rfl),rfl,rfl,rfl,by decide,rfl⟩
  have hrep : RepL (fun _ => False) s.heap (l.map PV.int) vs := repL_ints hI
  refine code_entry (lev := 9) (H := fun _ => False) DD hdep hR G (fun b q => q.elim) (xs := [.list (l.map .int)]) (RepL.cons (by
    rw [Rep]
    exact ⟨q,vs,rfl,fun z => z,pl,hrep,by simpa using hlen⟩) RepL.nil) rfl fun L s₁ m cm newL newC same keep1 X => ?_
  obtain ⟨st₁,st₂,eb,h1,h2⟩ := law_first M F L a doc pm an cdv ct
  have e1 : sOwn 1 d_pool ([.val (.list (l.map .int))] ++ List.replicate 15 .unset) = some (.next (([.val (.list (l.map .int))] ++ List.replicate 15 .unset : Sl).set 1 (.own [.list ((l.take 13).map .int),.int 0]))) := by
    unfold sOwn
    rw [show d_pool ([.val (.list (l.map .int))] ++ List.replicate 15 .unset) = _ from d_pool_eq l hlen _]
  have hrest := law_rest M fn_zmul fn_zshift fn_law_row fn_law_changes fn_law_between fn_count_roots L a doc pm an cdv ct
  generalize hrb : (bodyOf (stAt 48)).drop 2 = rest at eb hrest
  generalize hbb : execs (bodyOf (stAt 48)) = ex
  rw [eb] at hbb
  subst hbb
  refine execs_step h1 X e1 fun s₂ H₂ m₂ cm₂ ad₂ X₂ f₂ mv₂ => ?_
  obtain ⟨pv,c',hp,hl⟩ := law (ad₂ 1)
  refine wpAny_execs_cons (h2 X₂ rfl (show (2:Nat) ≤ lenMax by decide) hp fun s₃ m₃ cm₃ ad₃ X₃ mv₃ => ?_)
  have X₄ := X₃.forget (i := 0) (sl := .unset) (show 0 < (16:Nat) by decide) (fun q => q) fun x hx => trivial
  unfold lawOf at hl
  split at hl
  case h_2 => cases hl
  rename_i v hv
  cases hl
  refine hrest _ _ _ _ _ s₃ _ _ _ (.ret (.bool true)) _ _ X₄ hv fun s₄ H₄ u ru h4 f₄ mv₄ => ?_
  obtain ⟨h',tk',e1⟩ := same
  have mvall := (mv₂.tr mv₃).tr mv₄
  obtain ⟨h'',tk'',e2⟩ := mvall.same
  have hu := ru.bool_inv
  subst hu
  exact cont s₄ ⟨h'',tk'',by rw [e2,e1]⟩ fun b o e => mvall.keep b o ⟨o,e⟩ (keep1 b o e)
end Mine
end
section
open PySem PySem.W PyProof.Rows PySem.Calls
set_option maxRecDepth 100000
set_option maxHeartbeats 800000
namespace Mine
structure Defs (P : Pk) : Prop where
  D_gcd : Def P 1 (Str.ofString "gcd")
  D_gcd_all : Def P 2 (Str.ofString "gcd_all")
  D_ztrim : Def P 4 (Str.ofString "ztrim")
  D_zdegree : Def P 5 (Str.ofString "zdegree")
  D_zlead : Def P 6 (Str.ofString "zlead")
  D_zadd : Def P 7 (Str.ofString "zadd")
  D_zneg : Def P 8 (Str.ofString "zneg")
  D_zsub : Def P 9 (Str.ofString "zsub")
  D_zscale : Def P 10 (Str.ofString "zscale")
  D_zraise : Def P 11 (Str.ofString "zraise")
  D_zmul : Def P 12 (Str.ofString "zmul")
  D_zcontent : Def P 13 (Str.ofString "zcontent")
  D_zdivided : Def P 14 (Str.ofString "zdivided")
  D_zprimitive : Def P 15 (Str.ofString "zprimitive")
  D_zderive : Def P 16 (Str.ofString "zderive")
  D_zshift : Def P 17 (Str.ofString "zshift")
  D_check_bottom : Def P 21 (Str.ofString "check_bottom")
  D_zexact : Def P 22 (Str.ofString "zexact")
  D_pseudo : Def P 23 (Str.ofString "pseudo")
  D_zpseudo_rest : Def P 24 (Str.ofString "zpseudo_rest")
  D_next_height : Def P 26 (Str.ofString "next_height")
  D_subresultants : Def P 27 (Str.ofString "subresultants")
  D_zgcd : Def P 28 (Str.ofString "zgcd")
  D_sign_of : Def P 30 (Str.ofString "sign_of")
  D_value_sign : Def P 31 (Str.ofString "value_sign")
  D_end_sign : Def P 32 (Str.ofString "end_sign")
  D_sign_at : Def P 33 (Str.ofString "sign_at")
  D_simple_part : Def P 34 (Str.ofString "simple_part")
  D_lessened : Def P 35 (Str.ofString "lessened")
  D_next_of_row : Def P 36 (Str.ofString "next_of_row")
  D_sturm_row : Def P 37 (Str.ofString "sturm_row")
  D_changes_at : Def P 38 (Str.ofString "changes_at")
  D_count_by_row : Def P 39 (Str.ofString "count_by_row")
  D_count_roots : Def P 40 (Str.ofString "count_roots")
  D_law_choices : Def P 44 (Str.ofString "_law_choices")
  D_law_row : Def P 45 (Str.ofString "_law_row")
  D_law_changes : Def P 46 (Str.ofString "_law_changes")
  D_law_between : Def P 47 (Str.ofString "_law_between")
  D_law_draw : Def P 42 (Str.ofString "_law_draw")
  D_law_parts : Def P 43 (Str.ofString "_law_parts")
  D_law : Def P 48 (Str.ofString "law")
theorem law_all {P : Pk} (M : Miss P) (D : Defs P) {A : Around} {s : Shared} {q : Addr} {l : List Int} {vs : List Value} {Rs : Result → Shared → Prop} (hdep : A.depth < recursionLimit) (hR : ∀ env,EnvOk env → Room (A.deeper env) 9) (G : PG P s.heap) (pl : s.heap.PlainList q (List.toArray vs)) (hI : IntsAre vs l) (hlen : l.length ≤ lenMax)
    (law : ∀ p,∃ pv c',partsD p [.list ((l.take 13).map .int),.int 0] = some (pv,c') ∧ lawOf pv = some (.bool true))
    (cont : ∀ s',(∃ h tk,s' = { s with heap := h,toks := tk }) → (∀ b o,s.heap.get? b = some o → s'.heap.get? b = some o) → Rs (.ok (.ret (.bool true))) s') :
    ∃ a,P.mg (Str.ofString "law") = some (.ref a) ∧ codeAny (model P.prog P.w) A (.call (.ref a) ⟨[.ref q],[]⟩) Rs s := by
  have hfn_gcd := fn_gcd M D.D_gcd
  have hfn_gcd_all := fn_gcd_all M hfn_gcd D.D_gcd_all
  have hfn_ztrim := fn_ztrim M D.D_ztrim
  have hfn_zdegree := fn_zdegree M D.D_zdegree
  have hfn_zlead := fn_zlead M D.D_zlead
  have hfn_zadd := fn_zadd M hfn_ztrim D.D_zadd
  have hfn_zneg := fn_zneg M D.D_zneg
  have hfn_zsub := fn_zsub M hfn_zadd hfn_zneg D.D_zsub
  have hfn_zscale := fn_zscale M D.D_zscale
  have hfn_zraise := fn_zraise M D.D_zraise
  have hfn_zmul := fn_zmul M D.D_zmul
  have hfn_zcontent := fn_zcontent M hfn_gcd_all D.D_zcontent
  have hfn_zdivided := fn_zdivided M D.D_zdivided
  have hfn_zprimitive := fn_zprimitive M hfn_zcontent hfn_zdivided D.D_zprimitive
  have hfn_zderive := fn_zderive M D.D_zderive
  have hfn_zshift := fn_zshift M D.D_zshift
  have hfn_check_bottom := fn_check_bottom M D.D_check_bottom
  have hfn_zexact := fn_zexact M hfn_check_bottom hfn_zsub hfn_ztrim hfn_zraise hfn_zscale D.D_zexact
  have hfn_pseudo := fn_pseudo M hfn_check_bottom hfn_zlead hfn_zsub hfn_zscale hfn_zraise D.D_pseudo
  have hfn_zpseudo_rest := fn_zpseudo_rest M hfn_pseudo D.D_zpseudo_rest
  have hfn_next_height := fn_next_height M D.D_next_height
  have hfn_subresultants := fn_subresultants M hfn_zpseudo_rest hfn_zlead hfn_next_height hfn_zdivided D.D_subresultants
  have hfn_zgcd := fn_zgcd M hfn_gcd hfn_zscale hfn_zcontent hfn_subresultants hfn_zprimitive D.D_zgcd
  have hfn_sign_of := fn_sign_of M D.D_sign_of
  have hfn_value_sign := fn_value_sign M hfn_sign_of D.D_value_sign
  have hfn_end_sign := fn_end_sign M hfn_sign_of hfn_zlead hfn_zdegree D.D_end_sign
  have hfn_sign_at := fn_sign_at M hfn_end_sign hfn_value_sign D.D_sign_at
  have hfn_simple_part := fn_simple_part M hfn_zgcd hfn_zderive hfn_zexact hfn_zdegree D.D_simple_part
  have hfn_lessened := fn_lessened M hfn_zcontent D.D_lessened
  have hfn_next_of_row := fn_next_of_row M hfn_pseudo hfn_lessened hfn_zneg hfn_zlead D.D_next_of_row
  have hfn_sturm_row := fn_sturm_row M hfn_zderive hfn_next_of_row D.D_sturm_row
  have hfn_changes_at := fn_changes_at M hfn_sign_at D.D_changes_at
  have hfn_count_by_row := fn_count_by_row M hfn_changes_at D.D_count_by_row
  have hfn_count_roots := fn_count_roots M hfn_count_by_row hfn_sturm_row hfn_simple_part D.D_count_roots
  have hfn_law_choices := fn_law_choices M D.D_law_choices
  have hfn_law_row := fn_law_row M hfn_law_choices D.D_law_row
  have hfn_law_changes := fn_law_changes M D.D_law_changes
  have hfn_law_between := fn_law_between M hfn_law_choices D.D_law_between
  have hdraw := fn_law_draw M D.D_law_draw
  exact law_run M D.D_law (fn_law_parts M hdraw D.D_law_parts) hfn_zmul hfn_zshift hfn_law_row hfn_law_changes hfn_law_between hfn_count_roots hdep hR G pl hI hlen law cont
noncomputable def recAt (i : Nat) : DefRec := match stAt i with
  | .FunctionDef n a b _ _ _ sc _ _ pos => ⟨n,a,b,sc,pos⟩
  | _ => ⟨default,default,[],default,default⟩
theorem def_of {w : World} {prog q : Program} {h : Heap} {mg mb : Str → Option Value} {loose : List Str} {mean : ExcName → Option Value} (T : Top q loose mean mg mb h) {i : Nat} {f : Str} (hm : recAt i ∈ recsOf q) (hn : (recAt i).name = f)
    (ha : (recAt i).params = argsOf (stAt i)) (hb : (recAt i).body = bodyOf (stAt i)) (hs : (recAt i).scope = scopeOf (stAt i)) : Def ⟨prog,w,mg,mb,h⟩ i f := by
  obtain ⟨a,o,pm,code,doc,h1,h2,h3,h4⟩ := T.fn _ hm
  rw [hn] at h1 h3 h4
  rw [ha,hb,hs] at h3
  refine ⟨a,o.cls,o.dict,o.slots,doc,pm,none,code,.none,h1,?_,h4⟩
  cases o
  simp only at h3
  subst h3
  exact h2
end Mine
end
section
open PySem PySem.W PyProof.Rows
namespace Mine
theorem pvI_nil : pvI [] = .list [] := rfl
theorem lenV_pvI (l : List Int) : lenV (pvI l) = some (.int l.length) := by simp [pvI,lenV]
theorem listV_pvI (l : List Int) : listV (pvI l) = some (pvI l) := rfl
theorem seqV_pvI (l : List Int) : seqV (pvI l) = some (l.map .int) := rfl
theorem intsOf_map : ∀ (l : List Int),intsOf (l.map .int) = some l
  | [] => rfl
  | a :: r => by simp [intsOf,intsOf_map r]
theorem eqV_pvI (a b : List Int) : eqV (pvI a) (pvI b) = some (decide (a = b)) := by simp [pvI,eqV,intsOf_map]
theorem eqV_int (a b : Int) : eqV (.int a) (.int b) = some (a == b) := rfl
theorem neV_int (a b : Int) : neV (.int a) (.int b) = some (!(a == b)) := rfl
theorem idxL_map (l : List Int) (i : Nat) (h : i < l.length) : idxL (l.map .int) (i : Int) = some (.int (l[i]'h)) := by
  unfold idxL
  rw [if_pos (by lia)]
  simp [h]
theorem idxV_pvI (l : List Int) (i : Nat) (h : i < l.length) : idxV (pvI l) (.int i) = some (.int (l[i]'h)) := idxL_map l i h
noncomputable def lastI : List Int → Int
  | [] => 0
  | [a] => a
  | _ :: b :: r => lastI (b :: r)
theorem lastI_get : ∀ (l : List Int),l ≠ [] → l[l.length - 1]? = some (lastI l)
  | [],h => (h rfl).elim
  | [a],_ => rfl
  | a :: b :: r,_ => by
    have := lastI_get (b :: r) (by simp)
    simpa [lastI] using this
theorem lastI_mem {l : List Int} (h : l ≠ []) : lastI l ∈ l := List.mem_of_getElem? (lastI_get l h)
theorem idxL_last (l : List Int) (h : l ≠ []) : idxL (l.map .int) (-1) = some (.int (lastI l)) := by
  unfold idxL
  have hl : 0 < l.length := List.length_pos_iff.mpr h
  rw [if_neg (by decide),if_pos (by simp; lia)]
  have : ((-1 : Int) + ((l.map PV.int).length : Int)).toNat = l.length - 1 := by simp; lia
  rw [this,List.getElem?_map,lastI_get l h]
  rfl
theorem idxV_last (l : List Int) (h : l ≠ []) : idxV (pvI l) (.int (-1)) = some (.int (lastI l)) := idxL_last l h
noncomputable def Sm (n : Nat) (x : Int) : Prop := x.natAbs < 2 ^ n
theorem Sm.mono {n m : Nat} {x : Int} (h : Sm n x) (hn : n ≤ m) : Sm m x := Nat.lt_of_lt_of_le h (Nat.pow_le_pow_right (by decide) hn)
theorem Sm.mul {n m : Nat} {x y : Int} (h : Sm n x) (h' : Sm m y) : Sm (n + m) (x * y) := by
  unfold Sm at *
  rw [Int.natAbs_mul,Nat.pow_add]
  exact Nat.mul_lt_mul'' h h'
theorem Sm.add {n : Nat} {x y : Int} (h : Sm n x) (h' : Sm n y) : Sm (n + 1) (x + y) := by
  unfold Sm at *
  have := Int.natAbs_add_le x y
  rw [Nat.pow_succ]; lia
theorem Sm.neg {n : Nat} {x : Int} (h : Sm n x) : Sm n (-x) := by unfold Sm at *; rwa [Int.natAbs_neg]
theorem Sm.zero {n : Nat} : Sm n 0 := Nat.pos_pow_of_pos' n
  where Nat.pos_pow_of_pos' (n : Nat) : (0 : Int).natAbs < 2 ^ n := Nat.pow_pos (by decide)
theorem Sm.log {n : Nat} {x : Int} (h : Sm n x) : x.natAbs.log2 ≤ n := by
  unfold Sm at h
  by_cases z : x.natAbs = 0
  · rw [z]; simp
  · exact Nat.le_of_lt_succ ((Nat.log2_lt z).mpr (Nat.lt_trans h (Nat.pow_lt_pow_right (by decide) (Nat.lt_succ_self n))))
theorem Sm.smB {n : Nat} {x : Int} (h : Sm n x) (hn : n ≤ 1000000) : smB x = true := by
  unfold Mine.smB
  exact Nat.ble_eq_true_of_le (Nat.le_trans h.log hn)
theorem mulV_ok {n m : Nat} {x y : Int} (h : Sm n x) (h' : Sm m y) (hn : n ≤ 1000000) (hm : m ≤ 1000000) : mulV (.int x) (.int y) = some (.int (x * y)) := by
  unfold mulV
  dsimp only
  rw [h.smB hn,h'.smB hm]
  rfl
theorem Sm.pow {n : Nat} {x : Int} (h : Sm n x) : ∀ (k : Nat),Sm (n * k + 1) (x ^ k)
  | 0 => by simp [Sm]
  | k + 1 => by
    rw [Int.pow_succ]
    have := (h.pow k).mul h
    exact this.mono (by rw [Nat.mul_succ]; lia)
theorem powV_ok {n : Nat} {x : Int} {k : Int} (h : Sm n x) (hn : n ≤ 100000) (h0 : 0 ≤ k) (h1 : k ≤ 1000) : powV (.int x) (.int k) = some (.int (x ^ k.toNat)) := by
  unfold powV
  dsimp only
  rw [if_pos ⟨h0,h1,Nat.le_trans h.log hn⟩]
structure Gd (k n : Nat) (l : List Int) : Prop where
  len : l.length ≤ k
  sm : ∀ x ∈ l,Sm n x
theorem Gd.mono {k n k' n' : Nat} {l : List Int} (h : Gd k n l) (hk : k ≤ k') (hn : n ≤ n') : Gd k' n' l := ⟨Nat.le_trans h.len hk,fun x q => (h.sm x q).mono hn⟩
theorem Gd.last {k n : Nat} {l : List Int} (h : Gd k n l) : Sm n (lastI l) := by
  by_cases z : l = []
  · subst z; exact Sm.zero
  · exact h.sm _ (lastI_mem z)
end Mine
end
section
open PySem PySem.W PyProof.Rows
namespace Mine
theorem idx_app (a i : Den) (σ : Sl) : idx a i σ = bin idxV a i σ := rfl
theorem take1_all (xs : List PV) : xs.all (fun x => (take1 x).isSome) = true := by
  rw [List.all_eq_true]; intro x _; rfl
theorem enum_all : ∀ (n : Int) (xs : List PV),(enumFrom' n xs).all (fun x => (take2 x).isSome) = true
  | _,[] => rfl
  | n,x :: r => by
    rw [enumFrom',List.all_cons,enum_all (n + 1) r]; rfl
theorem enumP_length : ∀ (n : Int) (xs : List PV),(enumFrom' n xs).length = xs.length
  | _,[] => rfl
  | n,x :: r => by simp [enumFrom',enumP_length (n + 1) r]
theorem upto_ints (a : Int) : ∀ n,upto a n = ((List.range n).map fun (i : Nat) => a + i).map .int := by
  intro n
  induction n generalizing a with
  | zero => rfl
  | succ n ih =>
    rw [upto,ih,List.range_succ_eq_map]
    simp only [List.map_cons,List.map_map,List.cons.injEq,PV.int.injEq]
    refine ⟨by simp,List.map_congr_left fun i _ => ?_⟩
    simp only [Function.comp,PV.int.injEq]
    lia
theorem compGo_map {fr : Sl} {t : TDen} {e : Den} {g : Int → Int} : ∀ (l : List Int),(∀ x ∈ l,t (.val (.int x) :: fr) = some true) → (∀ x ∈ l,e (.val (.int x) :: fr) = some (.int (g x))) → compGo take1 fr t e (l.map .int) = some ((l.map g).map .int)
  | [],_,_ => rfl
  | a :: r,ht,he => by
    simp only [List.map_cons,compGo,take1,List.map_nil,List.cons_append,List.nil_append]
    rw [ht a (.head _),he a (.head _),compGo_map r (fun x q => ht x (.tail _ q)) (fun x q => he x (.tail _ q))]
theorem compGo_filter {fr : Sl} {t : TDen} {e : Den} {q : Int → Bool} {g : Int → Int} : ∀ (l : List Int),(∀ x ∈ l,t (.val (.int x) :: fr) = some (q x)) → (∀ x ∈ l,e (.val (.int x) :: fr) = some (.int (g x))) → compGo take1 fr t e (l.map .int) = some (((l.filter q).map g).map .int)
  | [],_,_ => rfl
  | a :: r,ht,he => by
    have ih := compGo_filter r (fun x q => ht x (.tail _ q)) (fun x q => he x (.tail _ q))
    simp only [List.map_cons,compGo,take1,List.map_nil,List.cons_append,List.nil_append]
    rw [ht a (.head _)]
    cases z : q a with
    | false => simp only [ih,List.filter_cons,z]; rfl
    | true => simp only [he a (.head _),ih,List.filter_cons,z]; rfl
noncomputable def mapE (g : Int → Int → Int) : Int → List Int → List Int
  | _,[] => []
  | n,a :: r => g n a :: mapE g (n + 1) r
theorem compGo_enum {fr : Sl} {t : TDen} {e : Den} {g : Int → Int → Int} : ∀ (n : Int) (l : List Int),(∀ i x,x ∈ l → n ≤ i → i < n + l.length → t (.val (.int i) :: .val (.int x) :: fr) = some true) → (∀ i x,x ∈ l → n ≤ i → i < n + l.length → e (.val (.int i) :: .val (.int x) :: fr) = some (.int (g i x))) →
    compGo take2 fr t e (enumFrom' n (l.map .int)) = some ((mapE g n l).map .int)
  | _,[],_,_ => rfl
  | n,a :: r,ht,he => by
    have ih := compGo_enum (n + 1) r (fun i x q h1 h2 => ht i x (.tail _ q) (by lia) (by simp only [List.length_cons]; lia)) (fun i x q h1 h2 => he i x (.tail _ q) (by lia) (by simp only [List.length_cons]; lia))
    simp only [List.map_cons,enumFrom',compGo,take2,List.map_nil,List.cons_append,List.nil_append]
    rw [ht n a (.head _) (by lia) (by simp only [List.length_cons]; lia),he n a (.head _) (by lia) (by simp only [List.length_cons]; lia),ih]
    rfl
theorem comp_eq {it : IDen} {tk : PV → Option (List PV)} {fr : List Nat} {t : TDen} {e : Den} {σ F : Sl} {xs ys : List PV} (h1 : it σ = some xs) (h2 : xs.length ≤ lenMax) (h3 : xs.all (fun x => (tk x).isSome) = true) (h4 : frees fr σ = some F) (h5 : compGo tk F t e xs = some ys) : comp it tk fr t e σ = some (.list ys) := by
  unfold comp
  rw [h1]
  dsimp only
  rw [if_pos ⟨h2,h3⟩,h4]
  dsimp only
  rw [h5]
theorem gcd_loop : ∀ (fuel a b : Nat),b < fuel → whileN (tcmp neV (vr 1) (ci 0)) (sTup [(0,false),(1,false)] [(vr 1),(bin modV (vr 0) (vr 1))]) fuel [.val (.int a),.val (.int b)] = some (.next [.val (.int (Nat.gcd a b)),.val (.int 0)])
  | 0,_,_,h => by lia
  | n + 1,a,b,h => by
    rw [whileN]
    by_cases z : b = 0
    · subst z
      simp [run,sSeq,sRet,sAsg,sTup,sUnp,sIf,sNop,sOwn,sFrz,sDrop,sM0,sM1,sM2,evs,bin,una,vr,ci,cst,ifx,tcmp,tand,tor,tnot,tval,vtst,lst,tpl,idx_app,call,List.map_cons,List.map_nil,List.length_cons,List.length_nil,List.cons_append,List.nil_append,List.getElem?_cons_zero,List.getElem?_cons_succ,List.set_cons_zero,List.set_cons_succ,List.replicate,List.replicate_zero,List.replicate_succ,Nat.reduceAdd,Nat.reduceSub,if_true,decide_true,decide_false,neV_int]
    · have hb : ((b : Int) == 0) = false := by simpa using z
      have h0 : (b : Int) ≠ 0 := by lia
      have e : (a : Int).fmod b = ((a % b : Nat) : Int) := by
        rw [Int.fmod_eq_emod_of_nonneg _ (by lia)]; rfl
      have ih := gcd_loop n b (a % b) (by have := Nat.mod_lt a (Nat.pos_of_ne_zero z); lia)
      simp only [run,sSeq,sRet,sAsg,sTup,sUnp,sIf,sNop,sOwn,sFrz,sDrop,sM0,sM1,sM2,evs,bin,una,vr,ci,cst,ifx,tcmp,tand,tor,tnot,tval,vtst,lst,tpl,idx_app,call,List.map_cons,List.map_nil,List.length_cons,List.length_nil,List.cons_append,List.nil_append,List.getElem?_cons_zero,List.getElem?_cons_succ,List.set_cons_zero,List.set_cons_succ,List.replicate,List.replicate_zero,List.replicate_succ,Nat.reduceAdd,Nat.reduceSub,if_true,decide_true,decide_false,neV_int,hb,modV,h0,e,Bool.not_false,if_false]
      rw [ih,Nat.gcd_comm b,← Nat.gcd_rec,Nat.gcd_comm]
theorem abs_eq (a : Int) : (if a < 0 then -a else a) = (a.natAbs : Int) := by split <;> lia
theorem e_gcd (a b : Int) : d_gcd [.int a,.int b] = some (.int (Nat.gcd a.natAbs b.natAbs)) := by
  show run 2 b_gcd _ = _
  simp only [run,sSeq,sRet,sAsg,sTup,sUnp,sIf,sNop,sOwn,sFrz,sDrop,sM0,sM1,sM2,evs,bin,una,vr,ci,cst,ifx,tcmp,tand,tor,tnot,tval,vtst,lst,tpl,idx_app,call,List.map_cons,List.map_nil,List.length_cons,List.length_nil,List.cons_append,List.nil_append,List.getElem?_cons_zero,List.getElem?_cons_succ,List.set_cons_zero,List.set_cons_succ,List.replicate,List.replicate_zero,List.replicate_succ,Nat.reduceAdd,Nat.reduceSub,if_true,decide_true,decide_false,b_gcd,absV,abs_eq,sWhile,fuelI]
  rw [gcd_loop _ _ _ (by lia)]
  rfl
noncomputable def gcdL (g : Nat) : List Int → Nat
  | [] => g
  | a :: r => gcdL (Nat.gcd g a.natAbs) r
theorem gcd_all_loop : ∀ (l : List Int) (p : PV) (g : Nat) (s : Slot),∃ s',forGo take1 [2] (sAsg 1 (call d_gcd [(vr 1),(vr 2)])) (l.map .int) [.val p,.val (.int g),s] = some (.next [.val p,.val (.int (gcdL g l)),s'])
  | [],p,g,s => ⟨s,rfl⟩
  | a :: r,p,g,s => by
    obtain ⟨s',h⟩ := gcd_all_loop r p (Nat.gcd g a.natAbs) (.val (.int a))
    refine ⟨s',?_⟩
    simp only [List.map_cons,forGo,take1,bindT,run,sSeq,sRet,sAsg,sTup,sUnp,sIf,sNop,sOwn,sFrz,sDrop,sM0,sM1,sM2,evs,bin,una,vr,ci,cst,ifx,tcmp,tand,tor,tnot,tval,vtst,lst,tpl,idx_app,call,List.map_cons,List.map_nil,List.length_cons,List.length_nil,List.cons_append,List.nil_append,List.getElem?_cons_zero,List.getElem?_cons_succ,List.set_cons_zero,List.set_cons_succ,List.replicate,List.replicate_zero,List.replicate_succ,Nat.reduceAdd,Nat.reduceSub,if_true,decide_true,decide_false,e_gcd,Int.natAbs_natCast]
    exact h
theorem e_gcd_all (l : List Int) : d_gcd_all [pvI l] = some (.int (gcdL 0 l)) := by
  show run 3 b_gcd_all _ = _
  obtain ⟨s',h⟩ := gcd_all_loop l (pvI l) 0 .unset
  simp only [run,sSeq,sRet,sAsg,sTup,sUnp,sIf,sNop,sOwn,sFrz,sDrop,sM0,sM1,sM2,evs,bin,una,vr,ci,cst,ifx,tcmp,tand,tor,tnot,tval,vtst,lst,tpl,idx_app,call,List.map_cons,List.map_nil,List.length_cons,List.length_nil,List.cons_append,List.nil_append,List.getElem?_cons_zero,List.getElem?_cons_succ,List.set_cons_zero,List.set_cons_succ,List.replicate,List.replicate_zero,List.replicate_succ,Nat.reduceAdd,Nat.reduceSub,if_true,decide_true,decide_false,b_gcd_all,sFor,itv,seqV_pvI,take1_all]
  rw [show (PV.int 0) = .int ((0 : Nat) : Int) from rfl,h]
  rfl
theorem e_zcontent (l : List Int) : d_zcontent [pvI l] = some (.int (gcdL 0 l)) := by
  show run 1 b_zcontent _ = _
  simp only [run,sSeq,sRet,sAsg,sTup,sUnp,sIf,sNop,sOwn,sFrz,sDrop,sM0,sM1,sM2,evs,bin,una,vr,ci,cst,ifx,tcmp,tand,tor,tnot,tval,vtst,lst,tpl,idx_app,call,List.map_cons,List.map_nil,List.length_cons,List.length_nil,List.cons_append,List.nil_append,List.getElem?_cons_zero,List.getElem?_cons_succ,List.set_cons_zero,List.set_cons_succ,List.replicate,List.replicate_zero,List.replicate_succ,Nat.reduceAdd,Nat.reduceSub,if_true,decide_true,decide_false,b_zcontent,e_gcd_all]
noncomputable def trimN (l : List Int) : Nat → Nat
  | 0 => 0
  | n + 1 => if l.getD n 0 = 0 then trimN l n else n + 1
theorem trimN_le (l : List Int) : ∀ n,trimN l n ≤ n
  | 0 => Nat.le_refl _
  | n + 1 => by unfold trimN; split; exact Nat.le_succ_of_le (trimN_le l n); exact Nat.le_refl _
theorem trim_loop (l : List Int) : ∀ (fuel n : Nat),n ≤ l.length → n < fuel → whileN (tand (tcmp gtV (vr 1) (ci 0)) (tcmp eqV (idx (vr 0) (bin subV (vr 1) (ci 1))) (ci 0))) (sAsg 1 (bin subI (vr 1) (ci 1))) fuel [.val (pvI l),.val (.int n)] = some (.next [.val (pvI l),.val (.int (trimN l n))])
  | 0,_,_,h => by lia
  | f + 1,0,_,_ => by rw [whileN]; simp [run,sSeq,sRet,sAsg,sTup,sUnp,sIf,sNop,sOwn,sFrz,sDrop,sM0,sM1,sM2,evs,bin,una,vr,ci,cst,ifx,tcmp,tand,tor,tnot,tval,vtst,lst,tpl,idx_app,call,List.map_cons,List.map_nil,List.length_cons,List.length_nil,List.cons_append,List.nil_append,List.getElem?_cons_zero,List.getElem?_cons_succ,List.set_cons_zero,List.set_cons_succ,List.replicate,List.replicate_zero,List.replicate_succ,Nat.reduceAdd,Nat.reduceSub,if_true,decide_true,decide_false,gtV,trimN]
  | f + 1,n + 1,hn,h => by
    have ih := trim_loop l f n (by lia) (by lia)
    have e : ((n + 1 : Nat) : Int) - 1 = (n : Int) := by lia
    have g : decide (((n + 1 : Nat) : Int) > 0) = true := decide_eq_true (by lia)
    have gd : l.getD n 0 = l[n]'(by lia) := by rw [List.getD_eq_getElem?_getD,List.getElem?_eq_getElem (by lia)]; rfl
    rw [whileN]
    simp only [run,sSeq,sRet,sAsg,sTup,sUnp,sIf,sNop,sOwn,sFrz,sDrop,sM0,sM1,sM2,evs,bin,una,vr,ci,cst,ifx,tcmp,tand,tor,tnot,tval,vtst,lst,tpl,idx_app,call,List.map_cons,List.map_nil,List.length_cons,List.length_nil,List.cons_append,List.nil_append,List.getElem?_cons_zero,List.getElem?_cons_succ,List.set_cons_zero,List.set_cons_succ,List.replicate,List.replicate_zero,List.replicate_succ,Nat.reduceAdd,Nat.reduceSub,if_true,decide_true,decide_false,gtV,g,subV,subI,e,idxV_pvI l n (by lia),eqV_int,trimN,gd]
    by_cases z : l[n]'(by lia) = 0
    · simp only [z,beq_self_eq_true,if_true]; exact ih
    · have zb : (l[n]'(by lia) == 0) = false := by simpa using z
      simp only [zb,z,if_false]
noncomputable def trimP (l : List Int) : List Int := l.take (trimN l l.length)
theorem e_ztrim (l : List Int) (hl : l.length ≤ lenMax) : d_ztrim [pvI l] = some (pvI (trimP l)) := by
  have h := trim_loop l (l.length + 2) l.length (Nat.le_refl _) (by lia)
  have h2 := trimN_le l l.length
  show run 2 b_ztrim _ = _
  simp only [run,sSeq,sRet,sAsg,sTup,sUnp,sIf,sNop,sOwn,sFrz,sDrop,sM0,sM1,sM2,evs,bin,una,vr,ci,cst,ifx,tcmp,tand,tor,tnot,tval,vtst,lst,tpl,idx_app,call,List.map_cons,List.map_nil,List.length_cons,List.length_nil,List.cons_append,List.nil_append,List.getElem?_cons_zero,List.getElem?_cons_succ,List.set_cons_zero,List.set_cons_succ,List.replicate,List.replicate_zero,List.replicate_succ,Nat.reduceAdd,Nat.reduceSub,if_true,decide_true,decide_false,b_ztrim,lenV_pvI,sWhile,fuelI,Int.natAbs_natCast]
  rw [h]
  dsimp only
  have e : sliceToV (pvI l) (.int (trimN l l.length)) = some (pvI (trimP l)) := by
    unfold sliceToV pvI
    dsimp only
    rw [if_pos ⟨by lia,by rw [Int.natAbs_natCast]; lia⟩]
    unfold trimP
    rw [Int.toNat_natCast,← List.map_take]
  simp only [run,sSeq,sRet,sAsg,sTup,sUnp,sIf,sNop,sOwn,sFrz,sDrop,sM0,sM1,sM2,evs,bin,una,vr,ci,cst,ifx,tcmp,tand,tor,tnot,tval,vtst,lst,tpl,idx_app,call,List.map_cons,List.map_nil,List.length_cons,List.length_nil,List.cons_append,List.nil_append,List.getElem?_cons_zero,List.getElem?_cons_succ,List.set_cons_zero,List.set_cons_succ,List.replicate,List.replicate_zero,List.replicate_succ,Nat.reduceAdd,Nat.reduceSub,if_true,decide_true,decide_false,e,listV_pvI]
end Mine
end
section
open PySem PySem.W PyProof.Rows
namespace Mine
theorem lenMax_eq : lenMax = 1000000 := rfl
theorem lenV_map (l : List Int) : lenV (.list (l.map .int)) = some (.int l.length) := lenV_pvI l
theorem okR_nat (n : Nat) (h : n ≤ 1000000) : okR 0 (n : Int) = true := by
  unfold okR
  rw [Int.natAbs_natCast,decide_eq_true (show n ≤ lenMax from h)]
  rfl
theorem slice1 (l : List Int) : sliceFromV (pvI l) (.int 1) = some (pvI (l.drop 1)) := by
  unfold sliceFromV pvI
  dsimp only
  rw [if_pos (by decide),← List.map_drop]
  rfl
noncomputable def addL : List Int → List Int → List Int
  | [],q => q
  | a :: p,[] => a :: p
  | a :: p,b :: q => (a + b) :: addL p q
theorem addL_nil (p : List Int) : addL p [] = p := by cases p <;> rfl
theorem addL_length : ∀ (p q : List Int),(addL p q).length = max p.length q.length
  | [],q => by simp [addL]
  | a :: p,[] => by simp [addL]
  | a :: p,b :: q => by simp [addL,addL_length p q]
theorem addL_getD : ∀ (p q : List Int) (i : Nat),(addL p q).getD i 0 = p.getD i 0 + q.getD i 0
  | [],q,i => by simp [addL]
  | a :: p,[],i => by simp [addL]
  | a :: p,b :: q,0 => by simp [addL]
  | a :: p,b :: q,i + 1 => by simpa [addL] using addL_getD p q i
theorem map_getD (l : List Int) : (List.range l.length).map (fun i => l.getD i 0) = l := by
  apply List.ext_getElem?
  intro i
  by_cases h : i < l.length
  · rw [List.getElem?_map,List.getElem?_range h,List.getElem?_eq_getElem h,Option.map_some,List.getD_eq_getElem?_getD,List.getElem?_eq_getElem h]; rfl
  · rw [List.getElem?_eq_none (by simpa using h),List.getElem?_eq_none (by lia)]
theorem at_or (p : List Int) (i : Nat) (r : Sl) (j : Nat) (hj : r[j]? = some (.val (pvI p))) : ifx (tcmp ltV (vr 0) (una lenV (vr (j + 1)))) (idx (vr (j + 1)) (vr 0)) (ci 0) (.val (.int (i : Int)) :: r) = some (.int (p.getD i 0)) := by
  simp only [run,sSeq,sRet,sAsg,sTup,sUnp,sIf,sNop,sOwn,sFrz,sDrop,sM0,sM1,sM2,evs,bin,una,vr,ci,cst,ifx,tcmp,tand,tor,tnot,tval,vtst,lst,tpl,idx_app,call,List.map_cons,List.map_nil,List.length_cons,List.length_nil,List.cons_append,List.nil_append,List.getElem?_cons_zero,List.getElem?_cons_succ,List.set_cons_zero,List.set_cons_succ,List.replicate,List.replicate_zero,List.replicate_succ,Nat.reduceAdd,Nat.reduceSub,if_true,decide_true,decide_false,hj,lenV_pvI,ltV]
  by_cases h : i < p.length
  · have d : decide ((i : Int) < p.length) = true := decide_eq_true (by lia)
    simp only [d,idxV_pvI p i h]
    rw [List.getD_eq_getElem?_getD,List.getElem?_eq_getElem h]; rfl
  · have d : decide ((i : Int) < p.length) = false := decide_eq_false (by lia)
    simp only [d]
    rw [List.getD_eq_getElem?_getD,List.getElem?_eq_none (by lia)]; rfl
theorem e_zadd (p q : List Int) (hp : p.length ≤ 1000) (hq : q.length ≤ 1000) : d_zadd [pvI p,pvI q] = some (pvI (trimP (addL p q))) := by
  have hm : (if (q.length : Int) > p.length then (q.length : Int) else p.length) = ((max p.length q.length : Nat) : Int) := by split <;> lia
  have hc : comp (itUp (ci 0) (vr 2)) take1 [0,1] ttrue (bin addV (ifx (tcmp ltV (vr 0) (una lenV (vr 1))) (idx (vr 1) (vr 0)) (ci 0)) (ifx (tcmp ltV (vr 0) (una lenV (vr 2))) (idx (vr 2) (vr 0)) (ci 0))) [.val (pvI p),.val (pvI q),.val (.int (max p.length q.length : Nat))] = some (pvI (addL p q)) := by
    have hit : itUp (ci 0) (vr 2) [.val (pvI p),.val (pvI q),.val (.int (max p.length q.length : Nat))] = some ((((List.range (max p.length q.length)).map fun (i : Nat) => (0 : Int) + i)).map .int) := by
      have hr : okR 0 ((max p.length q.length : Nat) : Int) = true := okR_nat _ (by lia)
      simp only [itUp,run,sSeq,sRet,sAsg,sTup,sUnp,sIf,sNop,sOwn,sFrz,sDrop,sM0,sM1,sM2,evs,bin,una,vr,ci,cst,ifx,tcmp,tand,tor,tnot,tval,vtst,lst,tpl,idx_app,call,List.map_cons,List.map_nil,List.length_cons,List.length_nil,List.cons_append,List.nil_append,List.getElem?_cons_zero,List.getElem?_cons_succ,List.set_cons_zero,List.set_cons_succ,List.replicate,List.replicate_zero,List.replicate_succ,Nat.reduceAdd,Nat.reduceSub,if_true,decide_true,decide_false,hr]
      rw [Int.sub_zero,Int.toNat_natCast,upto_ints]
    refine comp_eq hit (by rw [List.length_map,List.length_map,List.length_range,lenMax_eq]; lia) (take1_all _) (F := [.val (pvI p),.val (pvI q)]) rfl ?_
    rw [compGo_map (g := fun x => p.getD x.toNat 0 + q.getD x.toNat 0)]
    · refine congrArg (fun z : List Int => some (z.map PV.int)) ?_
      rw [List.map_map,← addL_length,← map_getD (addL p q),addL_length]
      simp only [List.length_map,List.length_range]
      refine List.map_congr_left fun i _ => ?_
      show p.getD ((0 : Int) + (i : Nat)).toNat 0 + q.getD ((0 : Int) + (i : Nat)).toNat 0 = _
      rw [show ((0 : Int) + (i : Nat)).toNat = i by lia,addL_getD]
    · intro x _; rfl
    · intro x hx
      obtain ⟨i,_,rfl⟩ := List.mem_map.mp hx
      have e : ((0 : Int) + (i : Nat)) = (i : Int) := by lia
      rw [e]
      have h1 := at_or p i [.val (pvI p),.val (pvI q)] 0 rfl
      have h2 := at_or q i [.val (pvI p),.val (pvI q)] 1 rfl
      unfold bin
      rw [h1,h2]
      simp [addV]
  show run 3 b_zadd _ = _
  simp only [run,sSeq,sRet,sAsg,sTup,sUnp,sIf,sNop,sOwn,sFrz,sDrop,sM0,sM1,sM2,evs,bin,una,vr,ci,cst,ifx,tcmp,tand,tor,tnot,tval,vtst,lst,tpl,idx_app,call,List.map_cons,List.map_nil,List.length_cons,List.length_nil,List.cons_append,List.nil_append,List.getElem?_cons_zero,List.getElem?_cons_succ,List.set_cons_zero,List.set_cons_succ,List.replicate,List.replicate_zero,List.replicate_succ,Nat.reduceAdd,Nat.reduceSub,if_true,decide_true,decide_false,b_zadd,lenV_pvI,max2V]
  rw [hm,hc]
  dsimp only
  rw [e_ztrim _ (by rw [addL_length,lenMax_eq]; lia)]
noncomputable def negL (p : List Int) : List Int := p.map (- ·)
theorem e_zneg (p : List Int) (hp : p.length ≤ 1000) : d_zneg [pvI p] = some (pvI (negL p)) := by
  have hc : comp (itv (vr 0)) take1 [] ttrue (una negV (vr 0)) [.val (pvI p)] = some (pvI (negL p)) :=
    comp_eq (xs := p.map .int) rfl (by simp [lenMax_eq]; lia) (take1_all _) (F := []) rfl (compGo_map p (fun _ _ => rfl) fun _ _ => rfl)
  show run 1 b_zneg _ = _
  simp only [run,sSeq,sRet,sAsg,sTup,sUnp,sIf,sNop,sOwn,sFrz,sDrop,sM0,sM1,sM2,evs,bin,una,vr,ci,cst,ifx,tcmp,tand,tor,tnot,tval,vtst,lst,tpl,idx_app,call,List.map_cons,List.map_nil,List.length_cons,List.length_nil,List.cons_append,List.nil_append,List.getElem?_cons_zero,List.getElem?_cons_succ,List.set_cons_zero,List.set_cons_succ,List.replicate,List.replicate_zero,List.replicate_succ,Nat.reduceAdd,Nat.reduceSub,if_true,decide_true,decide_false,b_zneg,hc]
noncomputable def subP (p q : List Int) : List Int := trimP (addL p (negL q))
theorem e_zsub (p q : List Int) (hp : p.length ≤ 1000) (hq : q.length ≤ 1000) : d_zsub [pvI p,pvI q] = some (pvI (subP p q)) := by
  show run 2 b_zsub _ = _
  simp only [run,sSeq,sRet,sAsg,sTup,sUnp,sIf,sNop,sOwn,sFrz,sDrop,sM0,sM1,sM2,evs,bin,una,vr,ci,cst,ifx,tcmp,tand,tor,tnot,tval,vtst,lst,tpl,idx_app,call,List.map_cons,List.map_nil,List.length_cons,List.length_nil,List.cons_append,List.nil_append,List.getElem?_cons_zero,List.getElem?_cons_succ,List.set_cons_zero,List.set_cons_succ,List.replicate,List.replicate_zero,List.replicate_succ,Nat.reduceAdd,Nat.reduceSub,if_true,decide_true,decide_false,b_zsub,e_zneg q hq,e_zadd p (negL q) hp (by simpa [negL] using hq)]
  rfl
noncomputable def scaleP (p : List Int) (k : Int) : List Int := if k = 0 then [] else p.map (· * k)
theorem e_zscale {n m : Nat} (p : List Int) (k : Int) (hp : Gd 1000 n p) (hk : Sm m k) (hn : n ≤ 1000000) (hm : m ≤ 1000000) : d_zscale [pvI p,.int k] = some (pvI (scaleP p k)) := by
  have hl := hp.len
  show run 2 b_zscale _ = _
  by_cases z : k = 0
  · subst z
    simp only [run,sSeq,sRet,sAsg,sTup,sUnp,sIf,sNop,sOwn,sFrz,sDrop,sM0,sM1,sM2,evs,bin,una,vr,ci,cst,ifx,tcmp,tand,tor,tnot,tval,vtst,lst,tpl,idx_app,call,List.map_cons,List.map_nil,List.length_cons,List.length_nil,List.cons_append,List.nil_append,List.getElem?_cons_zero,List.getElem?_cons_succ,List.set_cons_zero,List.set_cons_succ,List.replicate,List.replicate_zero,List.replicate_succ,Nat.reduceAdd,Nat.reduceSub,if_true,decide_true,decide_false,b_zscale,neV_int,beq_self_eq_true,Bool.not_true,scaleP]
    rfl
  · have zb : (k == 0) = false := by simpa using z
    have hc : comp (itv (vr 0)) take1 [1] ttrue (bin mulV (vr 0) (vr 1)) [.val (pvI p),.val (.int k)] = some (pvI (p.map (· * k))) :=
      comp_eq (xs := p.map .int) rfl (by simp [lenMax_eq]; lia) (take1_all _) (F := [.val (.int k)]) rfl (compGo_map p (fun _ _ => rfl) fun x hx => by
        simp only [run,sSeq,sRet,sAsg,sTup,sUnp,sIf,sNop,sOwn,sFrz,sDrop,sM0,sM1,sM2,evs,bin,una,vr,ci,cst,ifx,tcmp,tand,tor,tnot,tval,vtst,lst,tpl,idx_app,call,List.map_cons,List.map_nil,List.length_cons,List.length_nil,List.cons_append,List.nil_append,List.getElem?_cons_zero,List.getElem?_cons_succ,List.set_cons_zero,List.set_cons_succ,List.replicate,List.replicate_zero,List.replicate_succ,Nat.reduceAdd,Nat.reduceSub,if_true,decide_true,decide_false]; exact mulV_ok (hp.sm x hx) hk hn hm)
    simp only [run,sSeq,sRet,sAsg,sTup,sUnp,sIf,sNop,sOwn,sFrz,sDrop,sM0,sM1,sM2,evs,bin,una,vr,ci,cst,ifx,tcmp,tand,tor,tnot,tval,vtst,lst,tpl,idx_app,call,List.map_cons,List.map_nil,List.length_cons,List.length_nil,List.cons_append,List.nil_append,List.getElem?_cons_zero,List.getElem?_cons_succ,List.set_cons_zero,List.set_cons_succ,List.replicate,List.replicate_zero,List.replicate_succ,Nat.reduceAdd,Nat.reduceSub,if_true,decide_true,decide_false,b_zscale,neV_int,zb,Bool.not_false,hc,scaleP,z,if_false]
noncomputable def raiseP (p : List Int) (k : Nat) : List Int := if p = [] then [] else List.replicate k 0 ++ p
theorem e_zraise (p : List Int) (k : Nat) (hp : p.length ≤ 1000) (hk : k ≤ 1000) : d_zraise [pvI p,.int k] = some (pvI (raiseP p k)) := by
  show run 2 b_zraise _ = _
  cases p with
  | nil => rfl
  | cons a r =>
    have g : decide (((r.length + 1 : Nat) : Int) > 0) = true := decide_eq_true (by lia)
    have hm : mulV (.list [.int 0]) (.int (k : Int)) = some (pvI (List.replicate k 0)) := by
      simp only [mulV,pvI,List.map_replicate,Int.natAbs_natCast,Int.toNat_natCast]
      rw [if_pos (by rw [lenMax_eq]; lia)]
    have ha : addV (pvI (List.replicate k 0)) (pvI (a :: r)) = some (pvI (List.replicate k 0 ++ a :: r)) := by
      simp only [addV,pvI,List.map_append]
      rw [if_pos (by simp [lenMax_eq]; simp at hp; lia)]
    simp only [run,sSeq,sRet,sAsg,sTup,sUnp,sIf,sNop,sOwn,sFrz,sDrop,sM0,sM1,sM2,evs,bin,una,vr,ci,cst,ifx,tcmp,tand,tor,tnot,tval,vtst,lst,tpl,idx_app,call,List.map_cons,List.map_nil,List.length_cons,List.length_nil,List.cons_append,List.nil_append,List.getElem?_cons_zero,List.getElem?_cons_succ,List.set_cons_zero,List.set_cons_succ,List.replicate,List.replicate_zero,List.replicate_succ,Nat.reduceAdd,Nat.reduceSub,if_true,decide_true,decide_false,b_zraise,lenV_pvI,gtV,g,hm,listV_pvI,ha,raiseP]
    simp
theorem e_zdegree (p : List Int) : d_zdegree [pvI p] = some (.int (p.length - 1)) := by
  show run 1 b_zdegree [pvI p] = _
  simp only [run,sSeq,sRet,sAsg,sTup,sUnp,sIf,sNop,sOwn,sFrz,sDrop,sM0,sM1,sM2,evs,bin,una,vr,ci,cst,ifx,tcmp,tand,tor,tnot,tval,vtst,lst,tpl,idx_app,call,List.map_cons,List.map_nil,List.length_cons,List.length_nil,List.cons_append,List.nil_append,List.getElem?_cons_zero,List.getElem?_cons_succ,List.set_cons_zero,List.set_cons_succ,List.replicate,List.replicate_zero,List.replicate_succ,Nat.reduceAdd,Nat.reduceSub,if_true,decide_true,decide_false,b_zdegree,lenV_pvI,subV]
theorem e_zlead (p : List Int) : d_zlead [pvI p] = some (.int (lastI p)) := by
  show run 1 b_zlead _ = _
  cases p with
  | nil => rfl
  | cons a r =>
    have g : decide (((r.length + 1 : Nat) : Int) > 0) = true := decide_eq_true (by lia)
    simp only [run,sSeq,sRet,sAsg,sTup,sUnp,sIf,sNop,sOwn,sFrz,sDrop,sM0,sM1,sM2,evs,bin,una,vr,ci,cst,ifx,tcmp,tand,tor,tnot,tval,vtst,lst,tpl,idx_app,call,List.map_cons,List.map_nil,List.length_cons,List.length_nil,List.cons_append,List.nil_append,List.getElem?_cons_zero,List.getElem?_cons_succ,List.set_cons_zero,List.set_cons_succ,List.replicate,List.replicate_zero,List.replicate_succ,Nat.reduceAdd,Nat.reduceSub,if_true,decide_true,decide_false,b_zlead,lenV_pvI,gtV,g,negV,idxV_last (a :: r) (by simp)]
noncomputable def divL (p : List Int) (k : Int) : List Int := p.map (Int.fdiv · k)
theorem e_zdivided (p : List Int) (k : Int) (hp : p.length ≤ 1000) (hk : k ≠ 0) : d_zdivided [pvI p,.int k] = some (pvI (divL p k)) := by
  have hc : comp (itv (vr 0)) take1 [1] ttrue (bin fdivV (vr 0) (vr 1)) [.val (pvI p),.val (.int k)] = some (pvI (divL p k)) :=
    comp_eq (xs := p.map .int) rfl (by simp [lenMax_eq]; lia) (take1_all _) (F := [.val (.int k)]) rfl (compGo_map p (fun _ _ => rfl) fun x hx => by
      simp only [run,sSeq,sRet,sAsg,sTup,sUnp,sIf,sNop,sOwn,sFrz,sDrop,sM0,sM1,sM2,evs,bin,una,vr,ci,cst,ifx,tcmp,tand,tor,tnot,tval,vtst,lst,tpl,idx_app,call,List.map_cons,List.map_nil,List.length_cons,List.length_nil,List.cons_append,List.nil_append,List.getElem?_cons_zero,List.getElem?_cons_succ,List.set_cons_zero,List.set_cons_succ,List.replicate,List.replicate_zero,List.replicate_succ,Nat.reduceAdd,Nat.reduceSub,if_true,decide_true,decide_false,fdivV,hk,if_false])
  show run 2 b_zdivided _ = _
  simp only [run,sSeq,sRet,sAsg,sTup,sUnp,sIf,sNop,sOwn,sFrz,sDrop,sM0,sM1,sM2,evs,bin,una,vr,ci,cst,ifx,tcmp,tand,tor,tnot,tval,vtst,lst,tpl,idx_app,call,List.map_cons,List.map_nil,List.length_cons,List.length_nil,List.cons_append,List.nil_append,List.getElem?_cons_zero,List.getElem?_cons_succ,List.set_cons_zero,List.set_cons_succ,List.replicate,List.replicate_zero,List.replicate_succ,Nat.reduceAdd,Nat.reduceSub,if_true,decide_true,decide_false,b_zdivided,hc]
noncomputable def primP (p : List Int) : List Int := if p = [] then [] else divL p (if lastI p > 0 then (gcdL 0 p : Int) else -(gcdL 0 p : Int))
theorem gcdL_pos : ∀ (l : List Int) (g : Nat),0 < g → 0 < gcdL g l
  | [],g,h => h
  | a :: r,g,h => gcdL_pos r _ (Nat.gcd_pos_of_pos_left _ h)
theorem gcdL_pos' : ∀ (l : List Int),(∃ x ∈ l,x ≠ 0) → ∀ g,0 < gcdL g l
  | [],⟨x,h,_⟩,_ => nomatch h
  | a :: r,⟨x,h,n⟩,g => by
    unfold gcdL
    cases h with
    | head => exact gcdL_pos r _ (Nat.gcd_pos_of_pos_right _ (by lia))
    | tail _ h => exact gcdL_pos' r ⟨x,h,n⟩ _
theorem e_zprimitive (p : List Int) (hp : p.length ≤ 1000) (h : p = [] ∨ lastI p ≠ 0) : d_zprimitive [pvI p] = some (pvI (primP p)) := by
  show run 2 b_zprimitive _ = _
  cases p with
  | nil => rfl
  | cons a r =>
    have hl : lastI (a :: r) ≠ 0 := h.elim (fun q => nomatch q) id
    have hg := gcdL_pos' (a :: r) ⟨_,lastI_mem (by simp),hl⟩ 0
    have z : (((r.length + 1 : Nat) : Int) == 0) = false := by simp only [beq_eq_false_iff_ne]; lia
    simp only [run,sSeq,sRet,sAsg,sTup,sUnp,sIf,sNop,sOwn,sFrz,sDrop,sM0,sM1,sM2,evs,bin,una,vr,ci,cst,ifx,tcmp,tand,tor,tnot,tval,vtst,lst,tpl,idx_app,call,List.map_cons,List.map_nil,List.length_cons,List.length_nil,List.cons_append,List.nil_append,List.getElem?_cons_zero,List.getElem?_cons_succ,List.set_cons_zero,List.set_cons_succ,List.replicate,List.replicate_zero,List.replicate_succ,Nat.reduceAdd,Nat.reduceSub,if_true,decide_true,decide_false,b_zprimitive,lenV_pvI,eqV_int,z,e_zcontent,gtV,negV,idxV_last (a :: r) (by simp),primP]
    by_cases q : lastI (a :: r) > 0
    · rw [decide_eq_true q,if_pos q]
      dsimp only
      rw [e_zdivided _ _ hp (by lia)]; rfl
    · rw [decide_eq_false q,if_neg q]
      dsimp only
      rw [e_zdivided _ _ hp (by lia)]; rfl
noncomputable def deriveP (p : List Int) : List Int := (mapE (fun i x => x * i) 0 p).drop 1
theorem mapE_length (g : Int → Int → Int) : ∀ (n : Int) (l : List Int),(mapE g n l).length = l.length
  | _,[] => rfl
  | n,a :: r => by simp [mapE,mapE_length g (n + 1) r]
theorem e_zderive {n : Nat} (p : List Int) (hp : Gd 1000 n p) (hn : n ≤ 1000000) : d_zderive [pvI p] = some (pvI (deriveP p)) := by
  have hl := hp.len
  have hc : comp (itEnum (vr 0)) take2 [] ttrue (bin mulV (vr 1) (vr 0)) [.val (pvI p)] = some (pvI (mapE (fun i x => x * i) 0 p)) :=
    comp_eq (xs := enumFrom' 0 (p.map .int)) rfl (by simp [enumP_length,lenMax_eq]; lia) (enum_all _ _) (F := []) rfl (compGo_enum 0 p (fun _ _ _ _ _ => rfl) fun i x hx h1 h2 => by
      simp only [run,sSeq,sRet,sAsg,sTup,sUnp,sIf,sNop,sOwn,sFrz,sDrop,sM0,sM1,sM2,evs,bin,una,vr,ci,cst,ifx,tcmp,tand,tor,tnot,tval,vtst,lst,tpl,idx_app,call,List.map_cons,List.map_nil,List.length_cons,List.length_nil,List.cons_append,List.nil_append,List.getElem?_cons_zero,List.getElem?_cons_succ,List.set_cons_zero,List.set_cons_succ,List.replicate,List.replicate_zero,List.replicate_succ,Nat.reduceAdd,Nat.reduceSub,if_true,decide_true,decide_false]; exact mulV_ok (hp.sm x hx) (show Sm 10 i by unfold Sm; lia) hn (by decide))
  show run 1 b_zderive _ = _
  simp only [run,sSeq,sRet,sAsg,sTup,sUnp,sIf,sNop,sOwn,sFrz,sDrop,sM0,sM1,sM2,evs,bin,una,vr,ci,cst,ifx,tcmp,tand,tor,tnot,tval,vtst,lst,tpl,idx_app,call,List.map_cons,List.map_nil,List.length_cons,List.length_nil,List.cons_append,List.nil_append,List.getElem?_cons_zero,List.getElem?_cons_succ,List.set_cons_zero,List.set_cons_succ,List.replicate,List.replicate_zero,List.replicate_succ,Nat.reduceAdd,Nat.reduceSub,if_true,decide_true,decide_false,b_zderive,hc,slice1]
  rfl
end Mine
end
section
open PySem PySem.W PyProof.Rows
namespace Mine
theorem Gd.nil {k n : Nat} : Gd k n [] := ⟨by simp,fun _ h => nomatch h⟩
theorem Gd.scale {k n m : Nat} {p : List Int} {x : Int} (h : Gd k n p) (hx : Sm m x) : Gd k (n + m) (scaleP p x) := by
  unfold scaleP
  split
  · exact ⟨by simp,fun _ q => nomatch q⟩
  · exact ⟨by simpa using h.len,fun y hy => by obtain ⟨z,hz,rfl⟩ := List.mem_map.mp hy; exact (h.sm z hz).mul hx⟩
theorem scaleP_length (p : List Int) (x : Int) : (scaleP p x).length ≤ p.length := by
  unfold scaleP; split <;> simp
theorem Gd.negL {k n : Nat} {p : List Int} (h : Gd k n p) : Gd k n (negL p) :=
  ⟨by simpa [Mine.negL] using h.len,fun y hy => by obtain ⟨z,hz,rfl⟩ := List.mem_map.mp hy; exact (h.sm z hz).neg⟩
theorem addL_mem : ∀ {p q : List Int} {n : Nat},(∀ x ∈ p,Sm n x) → (∀ x ∈ q,Sm n x) → ∀ x ∈ addL p q,Sm (n + 1) x
  | [],q,n,_,hq,x,hx => (hq x hx).mono (Nat.le_succ _)
  | a :: p,[],n,hp,_,x,hx => (hp x hx).mono (Nat.le_succ _)
  | a :: p,b :: q,n,hp,hq,x,hx => by
    cases hx with
    | head => exact (hp a (.head _)).add (hq b (.head _))
    | tail _ h => exact addL_mem (fun y w => hp y (.tail _ w)) (fun y w => hq y (.tail _ w)) x h
theorem trimP_length (p : List Int) : (trimP p).length ≤ p.length := by unfold trimP; rw [List.length_take]; lia
theorem Gd.sub {k n : Nat} {p q : List Int} (h : Gd k n p) (h' : Gd k n q) : Gd k (n + 1) (subP p q) := by
  unfold subP
  refine ⟨Nat.le_trans (trimP_length _) ?_,fun x hx => ?_⟩
  · rw [addL_length]
    have := h.len
    have := h'.negL.len
    lia
  · exact addL_mem h.sm h'.negL.sm x (List.mem_of_mem_take hx)
theorem raiseP_length (p : List Int) (j : Nat) : (raiseP p j).length ≤ p.length + j := by
  unfold raiseP; split <;> simp; lia
theorem Gd.raise {k n j : Nat} {p : List Int} (h : Gd k n p) (hk : p.length + j ≤ k) : Gd k n (raiseP p j) := by
  refine ⟨Nat.le_trans (raiseP_length p j) hk,fun x hx => ?_⟩
  unfold raiseP at hx
  split at hx
  · cases hx
  · rcases List.mem_append.mp hx with q | q
    · rw [List.mem_replicate] at q; rw [q.2]; exact Sm.zero
    · exact h.sm x q
theorem Gd.of_le {k k' n : Nat} {p : List Int} (h : Gd k n p) (hk : p.length ≤ k') : Gd k' n p := ⟨hk,h.sm⟩
theorem e_check (a : Int) (r : List Int) : d_check_bottom [pvI (a :: r)] = some .none := by
  show run 1 b_check_bottom [pvI (a :: r)] = _
  have z : (((r.length + 1 : Nat) : Int) == 0) = false := by simp only [beq_eq_false_iff_ne]; lia
  simp only [run,sSeq,sRet,sAsg,sTup,sUnp,sIf,sNop,sOwn,sFrz,sDrop,sM0,sM1,sM2,evs,bin,una,vr,ci,cst,ifx,tcmp,tand,tor,tnot,tval,vtst,lst,tpl,idx_app,call,List.map_cons,List.map_nil,List.length_cons,List.length_nil,List.cons_append,List.nil_append,List.getElem?_cons_zero,List.getElem?_cons_succ,List.set_cons_zero,List.set_cons_succ,List.replicate,List.replicate_zero,List.replicate_succ,Nat.reduceAdd,Nat.reduceSub,if_true,decide_true,decide_false,b_check_bottom,lenV_pvI,eqV_int,z]
noncomputable def psR (b : List Int) (first : Int) (rest : List Int) : List Int := subP (scaleP rest first) (raiseP (scaleP b (lastI rest)) (rest.length - b.length))
noncomputable def psF (b : List Int) (first : Int) (rest found : List Int) : List Int := subP (scaleP found first) (raiseP [-(lastI rest)] (rest.length - b.length))
noncomputable def psGo (b : List Int) (first : Int) : Nat → List Int → List Int → Int → Option (List Int × List Int × Int)
  | 0,_,_,_ => none
  | n + 1,rest,found,left => if b.length ≤ rest.length then psGo b first n (psR b first rest) (psF b first rest found) (left - 1) else some (rest,found,left)
theorem psR_gd {n nb : Nat} {b rest : List Int} {first : Int} (hb : Gd 100 nb b) (hf : Sm nb first) (hr : Gd 100 n rest) (hl : b.length ≤ rest.length) : Gd 100 (n + nb + 1) (psR b first rest) := by
  have h1 := hr.scale hf
  have h2 := (hb.scale hr.last).mono (Nat.le_refl _) (show nb + n ≤ n + nb by lia)
  have hl1 := scaleP_length b (lastI rest)
  have hl2 := hr.len
  exact h1.sub (h2.raise (by lia))
theorem psF_gd {n nb : Nat} {b rest found : List Int} {first : Int} (hb : Gd 100 nb b) (hbn : b ≠ []) (hf : Sm nb first) (hr : Gd 100 n rest) (hfo : Gd 100 n found) : Gd 100 (n + nb + 1) (psF b first rest found) := by
  have h1 := hfo.scale hf
  have hl2 := hr.len
  have hl3 : 0 < b.length := List.length_pos_iff.mpr hbn
  have h2 : Gd 100 (n + nb) [-(lastI rest)] := ⟨by simp,fun x hx => by
    rw [List.mem_singleton] at hx; rw [hx]; exact hr.last.neg.mono (by lia)⟩
  by_cases q : rest.length - b.length ≤ 99
  · exact h1.sub (h2.raise (by simp; lia))
  · lia
theorem ps_loop {nb : Nat} {b : List Int} {first : Int} {a : PV} {m s9 : Slot} (hb : Gd 100 nb b) (hbn : b ≠ []) (hf : Sm nb first) : ∀ (fuel n : Nat) (rest found : List Int) (left : Int) (s7 s8 : Slot) (r f : List Int) (l : Int),Gd 100 n rest → Gd 100 n found → n + fuel * (nb + 1) ≤ 900000 → psGo b first fuel rest found left = some (r,f,l) →
    (∃ t7 t8,whileN (tcmp geV (una lenV (vr 3)) (una lenV (vr 1))) (sSeq (sTup [(7,false),(8,false)] [(idx (vr 3) (una negV (ci 1))),(bin subV (una lenV (vr 3)) (una lenV (vr 1)))])
      (sSeq (sAsg 4 (call d_zsub [(call d_zscale [(vr 4),(vr 6)]),(call d_zraise [(lst [(una negV (vr 7))]),(vr 8)])]))
      (sSeq (sAsg 3 (call d_zsub [(call d_zscale [(vr 3),(vr 6)]),(call d_zraise [(call d_zscale [(vr 1),(vr 7)]),(vr 8)])]))
      (sAsg 5 (bin subI (vr 5) (ci 1)))))) fuel [.val a,.val (pvI b),m,.val (pvI rest),.val (pvI found),.val (.int left),.val (.int first),s7,s8,s9] =
      some (.next [.val a,.val (pvI b),m,.val (pvI r),.val (pvI f),.val (.int l),.val (.int first),t7,t8,s9])) ∧ Gd 100 (n + fuel * (nb + 1)) r ∧ Gd 100 (n + fuel * (nb + 1)) f ∧ l ≤ left
  | 0,n,rest,found,left,s7,s8,r,f,l,_,_,_,h => by unfold psGo at h; cases h
  | fuel + 1,n,rest,found,left,s7,s8,r,f,l,hr,hfo,hn,h => by
    rw [Nat.succ_mul] at hn
    unfold psGo at h
    by_cases hl : b.length ≤ rest.length
    · rw [if_pos hl] at h
      have hrn : rest ≠ [] := fun z => by
        have := List.length_pos_iff.mpr hbn
        have : rest.length = 0 := by rw [z]; rfl
        lia
      have gR := psR_gd hb hf hr hl
      have gF := psF_gd hb hbn hf hr hfo
      obtain ⟨⟨s7',s8',hw⟩,g1,g2,g3⟩ := ps_loop (a := a) (m := m) (s9 := s9) hb hbn hf fuel (n + nb + 1) _ _ (left - 1) (.val (.int (lastI rest))) (.val (.int ((rest.length - b.length : Nat) : Int))) r f l gR gF (by lia) h
      refine ⟨⟨s7',s8',?_⟩,g1.mono (Nat.le_refl _) (by rw [Nat.succ_mul]; lia),g2.mono (Nat.le_refl _) (by rw [Nat.succ_mul]; lia),by lia⟩
      have hd : decide ((rest.length : Int) ≥ b.length) = true := decide_eq_true (by lia)
      have hs : (rest.length : Int) - b.length = ((rest.length - b.length : Nat) : Int) := by lia
      have hlr := hr.len
      have hlf := hfo.len
      have hlb := hb.len
      have l1 := scaleP_length found first
      have l2 := scaleP_length rest first
      have l3 := scaleP_length b (lastI rest)
      have l4 := raiseP_length (scaleP b (lastI rest)) (rest.length - b.length)
      have l5 := raiseP_length [-(lastI rest)] (rest.length - b.length)
      have e1 := e_zscale found first (hfo.of_le (by lia)) hf (by lia) (by lia)
      have e2 := e_zscale rest first (hr.of_le (by lia)) hf (by lia) (by lia)
      have e3 := e_zscale b (lastI rest) (hb.of_le (by lia)) hr.last (by lia) (by lia)
      have e4 := e_zraise (scaleP b (lastI rest)) (rest.length - b.length) (by lia) (by lia)
      have e5 : d_zraise [.list [.int (-(lastI rest))],.int ((rest.length - b.length : Nat) : Int)] = some (pvI (raiseP [-(lastI rest)] (rest.length - b.length))) := e_zraise [-(lastI rest)] (rest.length - b.length) (by simp) (by lia)
      have e6 := e_zsub (scaleP found first) (raiseP [-(lastI rest)] (rest.length - b.length)) (by lia) (by simp at l5; lia)
      have e7 := e_zsub (scaleP rest first) (raiseP (scaleP b (lastI rest)) (rest.length - b.length)) (by lia) (by lia)
      rw [whileN]
      simp only [run,sSeq,sRet,sAsg,sTup,sUnp,sIf,sNop,sOwn,sFrz,sDrop,sM0,sM1,sM2,evs,bin,una,vr,ci,cst,ifx,tcmp,tand,tor,tnot,tval,vtst,lst,tpl,idx_app,call,List.map_cons,List.map_nil,List.length_cons,List.length_nil,List.cons_append,List.nil_append,List.getElem?_cons_zero,List.getElem?_cons_succ,List.set_cons_zero,List.set_cons_succ,List.replicate,List.replicate_zero,List.replicate_succ,Nat.reduceAdd,Nat.reduceSub,if_true,decide_true,decide_false,lenV_pvI,geV,hd,negV,idxV_last rest hrn,subV,hs,e1,e2,e3,e4,e5,e6,e7,subI]
      exact hw
    · rw [if_neg hl] at h
      cases h
      have hd : decide ((rest.length : Int) ≥ b.length) = false := decide_eq_false (by lia)
      refine ⟨⟨s7,s8,?_⟩,hr.mono (Nat.le_refl _) (by lia),hfo.mono (Nat.le_refl _) (by lia),Int.le_refl _⟩
      rw [whileN]
      simp only [run,sSeq,sRet,sAsg,sTup,sUnp,sIf,sNop,sOwn,sFrz,sDrop,sM0,sM1,sM2,evs,bin,una,vr,ci,cst,ifx,tcmp,tand,tor,tnot,tval,vtst,lst,tpl,idx_app,call,List.map_cons,List.map_nil,List.length_cons,List.length_nil,List.cons_append,List.nil_append,List.getElem?_cons_zero,List.getElem?_cons_succ,List.set_cons_zero,List.set_cons_succ,List.replicate,List.replicate_zero,List.replicate_succ,Nat.reduceAdd,Nat.reduceSub,if_true,decide_true,decide_false,lenV_pvI,geV,hd]
noncomputable def manyP (a b : List Int) : Int := max 0 ((a.length : Int) - b.length + 1)
noncomputable def psP (a b : List Int) : Option (List Int × List Int × Int) := match psGo b (lastI b) (a.length + 3) a [] (manyP a b) with
  | none => none
  | some (r,f,l) => if 0 ≤ l then some (scaleP f (lastI b ^ l.toNat),scaleP r (lastI b ^ l.toNat),manyP a b) else none
theorem e_pseudo {n : Nat} {a b q r : List Int} {m : Int} (ha : Gd 100 n a) (hb : Gd 100 n b) (hn : n ≤ 4000) (hbn : b ≠ []) (h : psP a b = some (q,r,m)) : d_pseudo [pvI a,pvI b] = some (.tup [pvI q,pvI r,.int m]) := by
  unfold psP at h
  split at h
  · cases h
  rename_i r0 f0 l0 hg
  split at h
  case isFalse => cases h
  rename_i h0
  cases h
  have hla := ha.len
  have hlb := hb.len
  have hmul : (a.length + 3) * (n + 1) ≤ 103 * 4001 := Nat.mul_le_mul (by lia) (by lia)
  obtain ⟨⟨s7,s8,hw⟩,g1,g2,g3⟩ := ps_loop (a := pvI a) (m := .val (.int (manyP a b))) (s9 := .unset) hb hbn hb.last (a.length + 3) n a [] (manyP a b) .unset .unset r0 f0 l0 ha Gd.nil (by lia) hg
  have hm : (if (a.length : Int) - b.length + 1 > 0 then (a.length : Int) - b.length + 1 else 0) = manyP a b := by unfold manyP; split <;> lia
  have hl0 : l0 ≤ 101 := by unfold manyP at g3; lia
  have hp := powV_ok (k := l0) hb.last (by lia) h0 (by lia)
  have sp := hb.last.pow l0.toNat
  have hmul2 : n * l0.toNat ≤ 4000 * 101 := Nat.mul_le_mul hn (by lia)
  have l1 := scaleP_length
  have e1 := e_zscale f0 (lastI b ^ l0.toNat) (g2.of_le (Nat.le_trans g2.len (by decide))) sp (by lia) (by lia)
  have e2 := e_zscale r0 (lastI b ^ l0.toNat) (g1.of_le (Nat.le_trans g1.len (by decide))) sp (by lia) (by lia)
  show run 10 b_pseudo [pvI a,pvI b] = _
  obtain ⟨b0,bt,rfl⟩ : ∃ x t,b = x :: t := by
    cases b with
    | nil => exact (hbn rfl).elim
    | cons x t => exact ⟨x,t,rfl⟩
  have e3 : d_check_bottom [pvI (b0 :: bt)] = some .none := e_check b0 bt
  generalize b0 :: bt = b at *
  have hf : fuelL 3 [.val (pvI a),.val (pvI b),.val (.int (manyP a b)),.val (pvI a),.val (.list []),.val (.int (manyP a b)),.val (.int (lastI b)),.unset,.unset,.unset] = a.length + 3 := by
    simp [fuelL,pvI]
  have hnil : PV.list [] = pvI [] := rfl
  rw [hnil] at hf
  simp only [run,sSeq,sRet,sAsg,sTup,sUnp,sIf,sNop,sOwn,sFrz,sDrop,sM0,sM1,sM2,evs,bin,una,vr,ci,cst,ifx,tcmp,tand,tor,tnot,tval,vtst,lst,tpl,idx_app,call,List.map_cons,List.map_nil,List.length_cons,List.length_nil,List.cons_append,List.nil_append,List.getElem?_cons_zero,List.getElem?_cons_succ,List.set_cons_zero,List.set_cons_succ,List.replicate,List.replicate_zero,List.replicate_succ,Nat.reduceAdd,Nat.reduceSub,if_true,decide_true,decide_false,b_pseudo,e3,lenV_pvI,subV,addV,max2V,hm,listV_pvI,e_zlead,sWhile,hnil,hf]
  rw [hw]
  simp only [run,sSeq,sRet,sAsg,sTup,sUnp,sIf,sNop,sOwn,sFrz,sDrop,sM0,sM1,sM2,evs,bin,una,vr,ci,cst,ifx,tcmp,tand,tor,tnot,tval,vtst,lst,tpl,idx_app,call,List.map_cons,List.map_nil,List.length_cons,List.length_nil,List.cons_append,List.nil_append,List.getElem?_cons_zero,List.getElem?_cons_succ,List.set_cons_zero,List.set_cons_succ,List.replicate,List.replicate_zero,List.replicate_succ,Nat.reduceAdd,Nat.reduceSub,if_true,decide_true,decide_false,hp,e1,e2]
end Mine
end
section
open PySem PySem.W PyProof.Rows
namespace Mine
noncomputable def rnd (y x : Int) : List Int → List Int → List Int
  | [],_ => []
  | r :: rs,[] => y * r :: rnd y x rs []
  | r :: rs,b :: bs => (y * r - x * b) :: rnd y x rs bs
noncomputable def trH : List Int → List Int
  | [] => []
  | a :: r => if a = 0 then trH r else a :: r
noncomputable def psH (y : Int) (bs : List Int) : Nat → List Int → List Int
  | 0,rs => rs
  | _ + 1,[] => []
  | n + 1,r :: rt => if bs.length ≤ rt.length then psH y bs n (trH (rnd y r rt bs)) else (r :: rt).map (· * y ^ (n + 1))
noncomputable abbrev pvR (l : List Int) : PV := pvI l.reverse
theorem lastI_snoc : ∀ (l : List Int) (a : Int),lastI (l ++ [a]) = a
  | [],_ => rfl
  | [b],a => rfl
  | b :: c :: r,a => by
    have := lastI_snoc (c :: r) a
    simpa [lastI] using this
theorem trimN_append (l m : List Int) : ∀ n,n ≤ l.length → trimN (l ++ m) n = trimN l n
  | 0,_ => rfl
  | n + 1,h => by
    unfold trimN
    have e : (l ++ m).getD n 0 = l.getD n 0 := by
      simp only [List.getD_eq_getElem?_getD]
      rw [List.getElem?_append_left (by lia)]
    rw [e,trimN_append l m n (by lia)]
theorem trimP_nil : trimP [] = [] := rfl
theorem getD_len (l : List Int) (a : Int) : (l ++ [a]).getD l.length 0 = a := by
  simp [List.getD_eq_getElem?_getD]
theorem trimP_snoc_zero (l : List Int) : trimP (l ++ [0]) = trimP l := by
  unfold trimP
  rw [List.length_append,List.length_singleton,trimN,getD_len,if_pos rfl,trimN_append _ _ _ (Nat.le_refl _)]
  rw [List.take_append_of_le_length (trimN_le _ _)]
theorem trimP_snoc (l : List Int) (a : Int) (h : a ≠ 0) : trimP (l ++ [a]) = l ++ [a] := by
  unfold trimP
  rw [List.length_append,List.length_singleton,trimN,getD_len,if_neg h]
  exact List.take_of_length_le (by simp)
theorem trimP_rev : ∀ (l : List Int),trimP l.reverse = (trH l).reverse
  | [] => rfl
  | a :: r => by
    rw [List.reverse_cons,trH]
    by_cases h : a = 0
    · rw [if_pos h,h,trimP_snoc_zero,trimP_rev r]
    · rw [if_neg h,trimP_snoc _ _ h,List.reverse_cons]
theorem addL_snoc : ∀ (p q : List Int) (a b : Int),p.length = q.length → addL (p ++ [a]) (q ++ [b]) = addL p q ++ [a + b]
  | [],[],_,_,_ => rfl
  | x :: p,y :: q,a,b,h => by
    have := addL_snoc p q a b (by simpa using h)
    simp [addL,this]
  | [],_ :: _,_,_,h => by simp at h
  | _ :: _,[],_,_,h => by simp at h
theorem rnd_eq (y x : Int) : ∀ (rs bs : List Int),bs.length ≤ rs.length → addL (rs.reverse.map (· * y)) (negL (List.replicate (rs.length - bs.length) 0 ++ bs.reverse.map (· * x))) = (rnd y x rs bs).reverse
  | [],[],_ => rfl
  | [],_ :: _,h => by simp at h
  | r :: rs,[],_ => by
    have ih := rnd_eq y x rs [] (by simp)
    simp only [List.length_nil,Nat.sub_zero,List.reverse_nil,List.map_nil,List.append_nil,List.length_cons,List.reverse_cons,List.map_append,List.map_cons,rnd] at *
    rw [List.replicate_succ',negL,List.map_append]
    rw [show List.map (fun x : Int => -x) [0] = [0] from rfl,addL_snoc _ _ _ _ (by simp)]
    rw [negL] at ih
    rw [ih,Int.add_zero,Int.mul_comm]
  | r :: rs,b :: bs,h => by
    have ih := rnd_eq y x rs bs (by simpa using h)
    simp only [List.length_cons,Nat.add_sub_add_right,List.reverse_cons,List.map_append,List.map_cons,List.map_nil,rnd] at *
    rw [← List.append_assoc,negL,List.map_append]
    rw [show List.map (fun x : Int => -x) [b * x] = [-(b * x)] from rfl,addL_snoc _ _ _ _ (by simp; lia)]
    rw [negL] at ih
    rw [ih,Int.mul_comm y r,Int.mul_comm x b,Int.sub_eq_add_neg]
theorem rnd_zero (y : Int) : ∀ (rs bs : List Int),rnd y 0 rs bs = rs.map (y * ·)
  | [],bs => by cases bs <;> rfl
  | r :: rs,[] => by rw [rnd,rnd_zero y rs []]; rfl
  | r :: rs,b :: bs => by rw [rnd,rnd_zero y rs bs]; simp
theorem rnd_length (y x : Int) : ∀ (rs bs : List Int),(rnd y x rs bs).length = rs.length
  | [],bs => by cases bs <;> rfl
  | r :: rs,[] => by rw [rnd,List.length_cons,rnd_length y x rs []]; rfl
  | r :: rs,b :: bs => by rw [rnd,List.length_cons,rnd_length y x rs bs]; rfl
theorem trH_length : ∀ (l : List Int),(trH l).length ≤ l.length
  | [] => Nat.le_refl _
  | a :: r => by
    unfold trH
    split
    · exact Nat.le_succ_of_le (trH_length r)
    · exact Nat.le_refl _
theorem psR_eq {y r : Int} {bs rt : List Int} (hy : y ≠ 0) (h : bs.length ≤ rt.length) : psR (bs.reverse ++ [y]) y (rt.reverse ++ [r]) = (trH (rnd y r rt bs)).reverse := by
  unfold psR subP
  rw [lastI_snoc]
  have e1 : scaleP (rt.reverse ++ [r]) y = rt.reverse.map (· * y) ++ [r * y] := by
    unfold scaleP; rw [if_neg hy,List.map_append]; rfl
  rw [e1]
  by_cases hr : r = 0
  · subst hr
    have e2 : scaleP (bs.reverse ++ [y]) 0 = [] := by unfold scaleP; rw [if_pos rfl]
    rw [e2,show raiseP [] _ = ([] : List Int) from rfl,show negL [] = [] from rfl,addL_nil,Int.zero_mul,trimP_snoc_zero,rnd_zero,List.map_reverse,trimP_rev]
    rw [show (fun x : Int => x * y) = (y * ·) from funext fun x => Int.mul_comm x y]
  · have e2 : scaleP (bs.reverse ++ [y]) r = bs.reverse.map (· * r) ++ [y * r] := by
      unfold scaleP; rw [if_neg hr,List.map_append]; rfl
    rw [e2]
    have e3 : (rt.reverse ++ [r]).length - (bs.reverse ++ [y]).length = rt.length - bs.length := by simp
    rw [e3]
    have e4 : raiseP (bs.reverse.map (· * r) ++ [y * r]) (rt.length - bs.length) = (List.replicate (rt.length - bs.length) 0 ++ bs.reverse.map (· * r)) ++ [y * r] := by
      unfold raiseP; rw [if_neg (by simp),List.append_assoc]
    rw [e4]
    have e5 : negL ((List.replicate (rt.length - bs.length) 0 ++ bs.reverse.map (· * r)) ++ [y * r]) = negL (List.replicate (rt.length - bs.length) 0 ++ bs.reverse.map (· * r)) ++ [-(y * r)] := by
      unfold negL; rw [List.map_append]; rfl
    rw [e5,addL_snoc _ _ _ _ (by simp [negL]; lia),rnd_eq y r rt bs h]
    rw [show r * y + -(y * r) = 0 by rw [Int.mul_comm]; lia,trimP_snoc_zero,trimP_rev]
theorem scaleP_one (l : List Int) : scaleP l 1 = l := by
  unfold scaleP; rw [if_neg (by decide)]; simp
theorem psGo_eq {y : Int} {bs : List Int} (hy : y ≠ 0) : ∀ (fuel left : Nat) (rs found : List Int),rs.length < fuel → rs.length ≤ bs.length + left →
    ∃ r f l,psGo (bs.reverse ++ [y]) y fuel rs.reverse found left = some (r,f,l) ∧ 0 ≤ l ∧ scaleP r (y ^ l.toNat) = (psH y bs left rs).reverse
  | 0,_,_,_,h,_ => by lia
  | fuel + 1,left,rs,found,h1,h2 => by
    unfold psGo
    by_cases hl : (bs.reverse ++ [y]).length ≤ rs.reverse.length
    · rw [if_pos hl]
      simp only [List.length_append,List.length_reverse,List.length_singleton] at hl
      cases rs with
      | nil => simp at hl
      | cons r rt =>
        simp only [List.length_cons] at hl h1 h2
        obtain ⟨left,rfl⟩ : ∃ m,left = m + 1 := ⟨left - 1,by lia⟩
        rw [List.reverse_cons,psR_eq hy (by lia)]
        have tl := trH_length (rnd y r rt bs)
        rw [rnd_length] at tl
        rw [show ((left + 1 : Nat) : Int) - 1 = (left : Int) by lia]
        obtain ⟨a,b,c,e1,e2,e3⟩ := psGo_eq (bs := bs) hy fuel left (trH (rnd y r rt bs)) (psF (bs.reverse ++ [y]) y (rt.reverse ++ [r]) found) (by lia) (by lia)
        refine ⟨a,b,c,e1,e2,?_⟩
        rw [e3,psH,if_pos (by lia)]
    · rw [if_neg hl]
      simp only [List.length_append,List.length_reverse,List.length_singleton] at hl
      refine ⟨_,_,_,rfl,by lia,?_⟩
      rw [Int.toNat_natCast]
      cases left with
      | zero => rw [Int.pow_zero,scaleP_one,psH]
      | succ n =>
        cases rs with
        | nil => rw [psH]; unfold scaleP; split <;> rfl
        | cons r rt =>
          simp only [List.length_cons] at hl
          rw [psH,if_neg (by lia)]
          unfold scaleP
          rw [if_neg (Int.pow_ne_zero hy),List.map_reverse]
theorem psP_eq {y : Int} {a bs : List Int} (hy : y ≠ 0) : ∃ q,psP a.reverse (y :: bs).reverse = some (q,(psH y bs (a.length - bs.length) a).reverse,((a.length - bs.length : Nat) : Int)) := by
  have hm : manyP a.reverse (y :: bs).reverse = ((a.length - bs.length : Nat) : Int) := by
    unfold manyP; simp only [List.length_reverse,List.length_cons]; lia
  unfold psP
  rw [hm,List.reverse_cons,lastI_snoc]
  obtain ⟨r,f,l,e1,e2,e3⟩ := psGo_eq (bs := bs) hy (a.reverse.length + 3) (a.length - bs.length) a [] (by simp) (by lia)
  rw [e1]
  simp only [if_pos e2,e3]
  exact ⟨_,rfl⟩
theorem Gd.rev {k n : Nat} {l : List Int} (h : Gd k n l) : Gd k n l.reverse := ⟨by simpa using h.len,fun x q => h.sm x (by simpa using q)⟩
theorem e_pseudoH {n : Nat} {y : Int} {a bs : List Int} (ha : Gd 100 n a) (hb : Gd 100 n (y :: bs)) (hn : n ≤ 4000) (hy : y ≠ 0) :
    ∃ q,d_pseudo [pvR a,pvR (y :: bs)] = some (.tup [q,pvR (psH y bs (a.length - bs.length) a),.int ((a.length - bs.length : Nat) : Int)]) := by
  obtain ⟨q,h⟩ := psP_eq (a := a) (bs := bs) hy
  exact ⟨_,e_pseudo ha.rev hb.rev hn (by simp) h⟩
end Mine
end
section
open PySem PySem.W PyProof.Rows
set_option exponentiation.threshold 10000
namespace Mine
theorem gcdL_gcd : ∀ (l : List Int) (g h : Nat),gcdL (Nat.gcd g h) l = Nat.gcd g (gcdL h l)
  | [],_,_ => rfl
  | a :: r,g,h => by
    unfold gcdL
    rw [Nat.gcd_assoc,gcdL_gcd r]
theorem gcdL_append : ∀ (l m : List Int) (g : Nat),gcdL g (l ++ m) = gcdL (gcdL g l) m
  | [],_,_ => rfl
  | a :: r,m,g => by simp only [List.cons_append,gcdL,gcdL_append r m]
theorem gcdL_rev : ∀ (l : List Int) (g : Nat),gcdL g l.reverse = gcdL g l
  | [],_ => rfl
  | a :: r,g => by
    rw [List.reverse_cons,gcdL_append,gcdL_rev r]
    show Nat.gcd (gcdL g r) a.natAbs = gcdL (Nat.gcd g a.natAbs) r
    rw [Nat.gcd_comm g,gcdL_gcd,Nat.gcd_comm]
theorem divL_rev (l : List Int) (k : Int) : divL l.reverse k = (divL l k).reverse := by simp [divL]
theorem negL_rev (l : List Int) : negL l.reverse = (negL l).reverse := by simp [negL]
theorem negL_length (l : List Int) : (negL l).length = l.length := by simp [negL]
theorem divL_length (l : List Int) (k : Int) : (divL l k).length = l.length := by simp [divL]
theorem psH_length (y : Int) (bs : List Int) : ∀ (n : Nat) (rs : List Int),(psH y bs n rs).length ≤ rs.length
  | 0,rs => Nat.le_refl _
  | n + 1,[] => Nat.le_refl _
  | n + 1,r :: rt => by
    unfold psH
    split
    · have h1 := psH_length y bs n (trH (rnd y r rt bs))
      have h2 := trH_length (rnd y r rt bs)
      rw [rnd_length] at h2
      simp only [List.length_cons]; lia
    · simp
noncomputable def lessH (l : List Int) : List Int := if 1 < gcdL 0 l then divL l (gcdL 0 l) else l
theorem lessH_length (l : List Int) : (lessH l).length = l.length := by unfold lessH; split <;> simp [divL]
theorem e_lessened (l : List Int) (hl : l.length ≤ 1000) : d_lessened [pvR l] = some (pvR (lessH l)) := by
  show run 2 b_lessened [pvR l] = _
  simp only [run,sSeq,sRet,sAsg,sTup,sUnp,sIf,sNop,sOwn,sFrz,sDrop,sM0,sM1,sM2,evs,bin,una,vr,ci,cst,ifx,tcmp,tand,tor,tnot,tval,vtst,lst,tpl,idx_app,call,List.map_cons,List.map_nil,List.length_cons,List.length_nil,List.cons_append,List.nil_append,List.getElem?_cons_zero,List.getElem?_cons_succ,List.set_cons_zero,List.set_cons_succ,List.replicate,List.replicate_zero,List.replicate_succ,Nat.reduceAdd,Nat.reduceSub,if_true,decide_true,decide_false,b_lessened,e_zcontent,gcdL_rev,gtV]
  by_cases h : 1 < gcdL 0 l
  · have hc : comp (itv (vr 0)) take1 [1] ttrue (bin fdivV (vr 0) (vr 1)) [.val (pvR l),.val (.int (gcdL 0 l : Nat))] = some (pvR (divL l (gcdL 0 l))) :=
      comp_eq (xs := l.reverse.map .int) rfl (by simp [lenMax_eq]; lia) (take1_all _) (F := [.val (.int (gcdL 0 l : Nat))]) rfl (by
        rw [← divL_rev]
        exact compGo_map l.reverse (fun _ _ => rfl) fun x hx => by
          have h0 : ((gcdL 0 l : Nat) : Int) ≠ 0 := by lia
          simp only [run,sSeq,sRet,sAsg,sTup,sUnp,sIf,sNop,sOwn,sFrz,sDrop,sM0,sM1,sM2,evs,bin,una,vr,ci,cst,ifx,tcmp,tand,tor,tnot,tval,vtst,lst,tpl,idx_app,call,List.map_cons,List.map_nil,List.length_cons,List.length_nil,List.cons_append,List.nil_append,List.getElem?_cons_zero,List.getElem?_cons_succ,List.set_cons_zero,List.set_cons_succ,List.replicate,List.replicate_zero,List.replicate_succ,Nat.reduceAdd,Nat.reduceSub,if_true,decide_true,decide_false,fdivV,h0,if_false])
    have hd : decide (((gcdL 0 l : Nat) : Int) > 1) = true := decide_eq_true (by lia)
    unfold lessH
    simp only [hd,hc,h,if_true]
  · have hd : decide (((gcdL 0 l : Nat) : Int) > 1) = false := decide_eq_false (by lia)
    unfold lessH
    simp only [hd,h,if_false]
theorem modV_2 (a : Int) : modV (.int a) (.int 2) = some (.int (a.fmod 2)) := rfl
noncomputable def nextH (a : List Int) (y : Int) (bs : List Int) : List Int :=
  if (a.length - bs.length) % 2 = 1 ∧ y < 0 then lessH (psH y bs (a.length - bs.length) a) else lessH (negL (psH y bs (a.length - bs.length) a))
theorem e_next_of_row {n : Nat} {y : Int} {a bs : List Int} (ha : Gd 100 n a) (hb : Gd 100 n (y :: bs)) (hn : n ≤ 4000) (hy : y ≠ 0) :
    d_next_of_row [pvR a,pvR (y :: bs)] = some (pvR (nextH a y bs)) := by
  obtain ⟨q,h⟩ := e_pseudoH ha hb hn hy
  have hl := psH_length y bs (a.length - bs.length) a
  have hal := ha.len
  have e1 := e_lessened (psH y bs (a.length - bs.length) a) (by lia)
  have e2 := e_zneg (psH y bs (a.length - bs.length) a).reverse (by simp; lia)
  rw [negL_rev] at e2
  have e3 := e_lessened (negL (psH y bs (a.length - bs.length) a)) (by rw [negL_length]; lia)
  have hm : ((a.length - bs.length : Nat) : Int).fmod 2 = (((a.length - bs.length) % 2 : Nat) : Int) := by
    rw [Int.fmod_eq_emod_of_nonneg _ (by decide)]; rfl
  show run 5 b_next_of_row [pvR a,pvR (y :: bs)] = _
  unfold nextH
  by_cases hp : (a.length - bs.length) % 2 = 1
  · by_cases hs : y < 0
    · simp only [run,sSeq,sRet,sAsg,sTup,sUnp,sIf,sNop,sOwn,sFrz,sDrop,sM0,sM1,sM2,evs,bin,una,vr,ci,cst,ifx,tcmp,tand,tor,tnot,tval,vtst,lst,tpl,idx_app,call,List.map_cons,List.map_nil,List.length_cons,List.length_nil,List.cons_append,List.nil_append,List.getElem?_cons_zero,List.getElem?_cons_succ,List.set_cons_zero,List.set_cons_succ,List.replicate,List.replicate_zero,List.replicate_succ,Nat.reduceAdd,Nat.reduceSub,if_true,decide_true,decide_false,b_next_of_row,h,modV_2,hm,hp,eqV_int,e_zlead,List.reverse_cons,lastI_snoc,ltV,decide_eq_true hs,hs,e1]
      simp [eqV_int,e1]
    · simp only [run,sSeq,sRet,sAsg,sTup,sUnp,sIf,sNop,sOwn,sFrz,sDrop,sM0,sM1,sM2,evs,bin,una,vr,ci,cst,ifx,tcmp,tand,tor,tnot,tval,vtst,lst,tpl,idx_app,call,List.map_cons,List.map_nil,List.length_cons,List.length_nil,List.cons_append,List.nil_append,List.getElem?_cons_zero,List.getElem?_cons_succ,List.set_cons_zero,List.set_cons_succ,List.replicate,List.replicate_zero,List.replicate_succ,Nat.reduceAdd,Nat.reduceSub,if_true,decide_true,decide_false,b_next_of_row,h,modV_2,hm,hp,eqV_int,e_zlead,List.reverse_cons,lastI_snoc,ltV,decide_eq_false hs,hs,e2,e3]
      simp [eqV_int,e2,e3]
  · have hp0 : (a.length - bs.length) % 2 = 0 := by lia
    simp only [run,sSeq,sRet,sAsg,sTup,sUnp,sIf,sNop,sOwn,sFrz,sDrop,sM0,sM1,sM2,evs,bin,una,vr,ci,cst,ifx,tcmp,tand,tor,tnot,tval,vtst,lst,tpl,idx_app,call,List.map_cons,List.map_nil,List.length_cons,List.length_nil,List.cons_append,List.nil_append,List.getElem?_cons_zero,List.getElem?_cons_succ,List.set_cons_zero,List.set_cons_succ,List.replicate,List.replicate_zero,List.replicate_succ,Nat.reduceAdd,Nat.reduceSub,if_true,decide_true,decide_false,b_next_of_row,h,modV_2,hm,hp0,eqV_int,e2,e3]
    simp [eqV_int,e2,e3]
noncomputable def gdB (l : List Int) : Bool := Nat.ble l.length 100 && l.all fun x => Nat.ble x.natAbs.log2 3999
theorem gdB_gd {l : List Int} (h : gdB l = true) : Gd 100 4000 l := by
  unfold gdB at h
  rw [Bool.and_eq_true,List.all_eq_true] at h
  refine ⟨Nat.le_of_ble_eq_true h.1,fun x hx => ?_⟩
  have := Nat.le_of_ble_eq_true (h.2 x hx)
  unfold Sm
  by_cases z : x.natAbs = 0
  · rw [z]; exact Nat.pow_pos (by decide)
  · exact (Nat.log2_lt z).mp (Nat.lt_succ_of_le this)
theorem gd_gdB {l : List Int} (h : Gd 100 4000 l) : gdB l = true := by
  unfold gdB
  rw [Bool.and_eq_true,List.all_eq_true]
  refine ⟨Nat.ble_eq_true_of_le h.len,fun x hx => Nat.ble_eq_true_of_le ?_⟩
  have := h.sm x hx
  unfold Sm at this
  by_cases z : x.natAbs = 0
  · rw [z]; decide
  · exact Nat.le_of_lt_succ ((Nat.log2_lt z).mpr this)
noncomputable def rowH : Nat → List Int → List Int → Option (List (List Int))
  | 0,_,_ => none
  | n + 1,a,b => match b with
    | [] => some [a]
    | y :: bs => if y ≠ 0 ∧ gdB a = true ∧ gdB (y :: bs) = true then (match rowH n (y :: bs) (nextH a y bs) with
        | none => none
        | some r => some (a :: r)) else none
theorem eqV_nil (l : List Int) : neV (pvR l) (.list []) = some (!decide (l = [])) := by
  show (eqV (pvI l.reverse) (pvI [])).map (! ·) = _
  rw [eqV_pvI]
  simp
theorem idxL_m1 (xs : List PV) (x : PV) : idxL (xs ++ [x]) (-1) = some x := by
  unfold idxL
  rw [if_neg (by decide),if_pos (by simp; lia)]
  have : ((-1 : Int) + ((xs ++ [x]).length : Int)).toNat = xs.length := by simp; lia
  rw [this]
  simp
theorem idxL_m2 (xs : List PV) (x y : PV) : idxL (xs ++ [x,y]) (-2) = some x := by
  unfold idxL
  rw [if_neg (by decide),if_pos (by simp; lia)]
  have : ((-2 : Int) + ((xs ++ [x,y]).length : Int)).toNat = xs.length := by simp; lia
  rw [this]
  simp
theorem row_loop {p : Slot} : ∀ (fuel N : Nat) (a b : List Int) (r : List (List Int)) (pre : List PV),rowH fuel a b = some r → fuel ≤ N → pre.length + N < 900000 →
    ∃ l,whileN (tcmp neV (vr 2) (lst [])) (sSeq (sApp 1 (vr 2)) (sAsg 2 (call d_next_of_row [(idxO 1 (una negV (ci 2))),(idxO 1 (una negV (ci 1)))]))) N [p,.own (pre ++ [pvR a]),.val (pvR b)] = some (.next [p,.own (pre ++ r.map pvR),l])
  | 0,_,_,_,_,_,h,_,_ => by unfold rowH at h; cases h
  | fuel + 1,0,_,_,_,_,_,h,_ => by lia
  | fuel + 1,N + 1,a,b,r,pre,h,hN,hp => by
    unfold rowH at h
    rw [whileN]
    cases b with
    | nil =>
      cases h
      refine ⟨.val (pvR []),?_⟩
      have e := eqV_nil []
      simp only [decide_true,Bool.not_true] at e
      simp only [run,sSeq,sRet,sAsg,sTup,sUnp,sIf,sNop,sOwn,sFrz,sDrop,sM0,sM1,sM2,evs,bin,una,vr,ci,cst,ifx,tcmp,tand,tor,tnot,tval,vtst,lst,tpl,idx_app,call,List.map_cons,List.map_nil,List.length_cons,List.length_nil,List.cons_append,List.nil_append,List.getElem?_cons_zero,List.getElem?_cons_succ,List.set_cons_zero,List.set_cons_succ,List.replicate,List.replicate_zero,List.replicate_succ,Nat.reduceAdd,Nat.reduceSub,if_true,decide_true,decide_false,e]
    | cons y bs =>
      simp only at h
      split at h
      case isFalse => cases h
      rename_i hg
      obtain ⟨hy,ga,gb⟩ := hg
      split at h
      case h_1 => cases h
      rename_i t ht
      cases h
      obtain ⟨l,hl⟩ := row_loop (p := p) fuel N (y :: bs) (nextH a y bs) t (pre ++ [pvR a]) ht (by lia) (by simp; lia)
      refine ⟨l,?_⟩
      have e := eqV_nil (y :: bs)
      simp only [reduceCtorEq,decide_false,Bool.not_false] at e
      have e1 := e_next_of_row (gdB_gd ga) (gdB_gd gb) (Nat.le_refl _) hy
      have i1 := idxL_m1 (pre ++ [pvR a]) (pvR (y :: bs))
      have i2 := idxL_m2 pre (pvR a) (pvR (y :: bs))
      have hlen : (pre ++ [pvR a]).length < lenMax := by rw [lenMax_eq]; simp; lia
      have hlen2 : (pre ++ [pvR a] ++ [pvR (y :: bs)]).length ≤ lenMax := by rw [lenMax_eq]; simp; lia
      rw [List.append_assoc] at hlen2 i1
      simp only [List.cons_append,List.nil_append] at hlen2 i1
      rw [List.append_assoc] at hl
      simp only [List.cons_append,List.nil_append] at hl
      simp only [run,sSeq,sRet,sAsg,sTup,sUnp,sIf,sNop,sOwn,sFrz,sDrop,sM0,sM1,sM2,evs,bin,una,vr,ci,cst,ifx,tcmp,tand,tor,tnot,tval,vtst,lst,tpl,idx_app,call,List.map_cons,List.map_nil,List.length_cons,List.length_nil,List.cons_append,List.nil_append,List.getElem?_cons_zero,List.getElem?_cons_succ,List.set_cons_zero,List.set_cons_succ,List.replicate,List.replicate_zero,List.replicate_succ,Nat.reduceAdd,Nat.reduceSub,if_true,decide_true,decide_false,e,sApp,hlen,idxO,negV,hlen2,List.append_assoc,i1,i2,e1]
      rw [hl]
      simp only [List.append_assoc,List.cons_append,List.nil_append,List.map_cons]
noncomputable def derH (f : List Int) : List Int := (deriveP f.reverse).reverse
theorem e_sturm_row {f : List Int} {r : List (List Int)} (hf : Gd 100 4000 f) (h : rowH ((derH f).length + 3) f (derH f) = some r) : d_sturm_row [pvR f] = some (.list (r.map pvR)) := by
  have hl := hf.len
  have hfr : Gd 1000 4000 f.reverse := hf.rev.of_le (by simp; lia)
  have e1 := e_zderive f.reverse hfr (by decide)
  have e2 : pvI (deriveP f.reverse) = pvR (derH f) := by unfold derH pvR; rw [List.reverse_reverse]
  rw [e2] at e1
  have dl : (derH f).length ≤ 100 := by unfold derH; simp [deriveP,mapE_length]; lia
  obtain ⟨l,hw⟩ := row_loop (p := .val (pvR f)) _ _ f (derH f) r [] h (Nat.le_refl _) (by simp; lia)
  have hf2 : fuelL 2 [.val (pvR f),.own [pvR f],.val (pvR (derH f))] = (derH f).length + 3 := by
    simp [fuelL,pvI]
  have hlen : r.length ≤ 1000 := by
    have : ∀ (n : Nat) a b r,rowH n a b = some r → r.length ≤ n := by
      intro n
      induction n with
      | zero => intro a b r h; unfold rowH at h; cases h
      | succ n ih =>
        intro a b r h
        unfold rowH at h
        split at h
        · cases h; simp
        · split at h
          case isFalse => cases h
          split at h
          · cases h
          · rename_i t ht
            cases h
            have := ih _ _ _ ht
            simp; lia
    have := this _ _ _ _ h
    lia
  have hlen2 : (r.map pvR).length ≤ lenMax := by rw [lenMax_eq]; simp; lia
  show run 3 b_sturm_row [pvR f] = _
  simp only [run,sSeq,sRet,sAsg,sTup,sUnp,sIf,sNop,sOwn,sFrz,sDrop,sM0,sM1,sM2,evs,bin,una,vr,ci,cst,ifx,tcmp,tand,tor,tnot,tval,vtst,lst,tpl,idx_app,call,List.map_cons,List.map_nil,List.length_cons,List.length_nil,List.cons_append,List.nil_append,List.getElem?_cons_zero,List.getElem?_cons_succ,List.set_cons_zero,List.set_cons_succ,List.replicate,List.replicate_zero,List.replicate_succ,Nat.reduceAdd,Nat.reduceSub,if_true,decide_true,decide_false,b_sturm_row,e1,sWhile,hf2]
  rw [show ([] ++ [pvR f]) = [pvR f] from rfl] at hw
  rw [hw]
  simp only [run,sSeq,sRet,sAsg,sTup,sUnp,sIf,sNop,sOwn,sFrz,sDrop,sM0,sM1,sM2,evs,bin,una,vr,ci,cst,ifx,tcmp,tand,tor,tnot,tval,vtst,lst,tpl,idx_app,call,List.map_cons,List.map_nil,List.length_cons,List.length_nil,List.cons_append,List.nil_append,List.getElem?_cons_zero,List.getElem?_cons_succ,List.set_cons_zero,List.set_cons_succ,List.replicate,List.replicate_zero,List.replicate_succ,Nat.reduceAdd,Nat.reduceSub,if_true,decide_true,decide_false,hlen2,if_true]
end Mine
end
section
open PySem PySem.W PyProof.Rows
set_option exponentiation.threshold 10000
namespace Mine
noncomputable def sgnI (x : Int) : Int := if x > 0 then 1 else if x < 0 then -1 else 0
theorem e_sign_of (x : Int) : d_sign_of [.int x] = some (.int (sgnI x)) := by
  show run 1 b_sign_of [.int x] = _
  simp only [run,sSeq,sRet,sAsg,sTup,sUnp,sIf,sNop,sOwn,sFrz,sDrop,sM0,sM1,sM2,evs,bin,una,vr,ci,cst,ifx,tcmp,tand,tor,tnot,tval,vtst,lst,tpl,idx_app,call,List.map_cons,List.map_nil,List.length_cons,List.length_nil,List.cons_append,List.nil_append,List.getElem?_cons_zero,List.getElem?_cons_succ,List.set_cons_zero,List.set_cons_succ,List.replicate,List.replicate_zero,List.replicate_succ,Nat.reduceAdd,Nat.reduceSub,if_true,decide_true,decide_false,b_sign_of,gtV,ltV,subV]
  unfold sgnI
  by_cases h : x > 0
  · have : ¬ x < 0 := by lia
    simp [h,this]
  · by_cases h' : x < 0
    · simp [h,h']
    · simp [h,h']
noncomputable def valH (t : Int) : Int → List Int → Int
  | v,[] => v
  | v,c :: r => valH t (v * t + c) r
theorem val_loop {p x : Slot} {t : Int} (ht : Sm 1 t) : ∀ (l : List Int) (v : Int) (m : Nat) (s6 : Slot),Sm m v → (∀ c ∈ l,Sm m c) → m + 2 * l.length ≤ 900000 →
    ∃ s6',forGo take1 [6] (sSeq (sAsg 4 (bin addV (bin mulV (vr 4) (vr 2)) (bin mulV (vr 6) (vr 5)))) (sAsg 5 (bin mulV (vr 5) (vr 3)))) (l.map .int) [p,x,.val (.int t),.val (.int 1),.val (.int v),.val (.int 1),s6] = some (.next [p,x,.val (.int t),.val (.int 1),.val (.int (valH t v l)),.val (.int 1),s6'])
  | [],v,m,s6,_,_,_ => ⟨s6,rfl⟩
  | c :: r,v,m,s6,hv,hl,hm => by
    have s1 : Sm 1 1 := by unfold Sm; decide
    have e1 := mulV_ok hv ht (by simp at hm; lia) (by decide)
    have e2 := mulV_ok (hl c (.head _)) s1 (by simp at hm; lia) (by decide)
    have e3 := mulV_ok s1 s1 (by decide) (by decide)
    have g : Sm (m + 2) (v * t + c) := (hv.mul ht).add ((hl c (.head _)).mono (by lia))
    obtain ⟨s6',h⟩ := val_loop (p := p) (x := x) ht r (v * t + c) (m + 2) (.val (.int c)) g (fun y q => (hl y (.tail _ q)).mono (by lia)) (by simp at hm; lia)
    refine ⟨s6',?_⟩
    rw [Int.mul_one] at e2
    rw [Int.mul_one] at e3
    simp only [forGo,take1,bindT,run,sSeq,sRet,sAsg,sTup,sUnp,sIf,sNop,sOwn,sFrz,sDrop,sM0,sM1,sM2,evs,bin,una,vr,ci,cst,ifx,tcmp,tand,tor,tnot,tval,vtst,lst,tpl,idx_app,call,List.map_cons,List.map_nil,List.length_cons,List.length_nil,List.cons_append,List.nil_append,List.getElem?_cons_zero,List.getElem?_cons_succ,List.set_cons_zero,List.set_cons_succ,List.replicate,List.replicate_zero,List.replicate_succ,Nat.reduceAdd,Nat.reduceSub,if_true,decide_true,decide_false,e1,e2,e3,addV]
    rw [valH]
    exact h
theorem e_value_sign {l : List Int} {t : Int} (ht : Sm 1 t) (hl : Gd 100 4000 l) : d_value_sign [pvR l,.tup [.int t,.int 1]] = some (.int (sgnI (valH t 0 l))) := by
  have hlen := hl.len
  obtain ⟨s6',h⟩ := val_loop (p := .val (pvR l)) (x := .val (.tup [.int t,.int 1])) ht l 0 4000 .unset Sm.zero hl.sm (by lia)
  have hi : itRev (vr 0) [.val (pvR l),.val (.tup [.int t,.int 1]),.val (.int t),.val (.int 1),.val (.int 0),.val (.int 1),.unset] = some (l.map .int) := by
    simp [itRev,vr,pvI]
  show run 7 b_value_sign [pvR l,.tup [.int t,.int 1]] = _
  simp only [run,sSeq,sRet,sAsg,sTup,sUnp,sIf,sNop,sOwn,sFrz,sDrop,sM0,sM1,sM2,evs,bin,una,vr,ci,cst,ifx,tcmp,tand,tor,tnot,tval,vtst,lst,tpl,idx_app,call,List.map_cons,List.map_nil,List.length_cons,List.length_nil,List.cons_append,List.nil_append,List.getElem?_cons_zero,List.getElem?_cons_succ,List.set_cons_zero,List.set_cons_succ,List.replicate,List.replicate_zero,List.replicate_succ,Nat.reduceAdd,Nat.reduceSub,if_true,decide_true,decide_false,b_value_sign,sFor,hi,take1_all,h,e_sign_of]
theorem e_sign_at {l : List Int} {t : Int} (ht : Sm 1 t) (hl : Gd 100 4000 l) : d_sign_at [pvR l,.tup [.int t,.int 1]] = some (.int (sgnI (valH t 0 l))) := by
  show run 2 b_sign_at [pvR l,.tup [.int t,.int 1]] = _
  simp only [run,sSeq,sRet,sAsg,sTup,sUnp,sIf,sNop,sOwn,sFrz,sDrop,sM0,sM1,sM2,evs,bin,una,vr,ci,cst,ifx,tcmp,tand,tor,tnot,tval,vtst,lst,tpl,idx_app,call,List.map_cons,List.map_nil,List.length_cons,List.length_nil,List.cons_append,List.nil_append,List.getElem?_cons_zero,List.getElem?_cons_succ,List.set_cons_zero,List.set_cons_succ,List.replicate,List.replicate_zero,List.replicate_succ,Nat.reduceAdd,Nat.reduceSub,if_true,decide_true,decide_false,b_sign_at,isStrV,e_value_sign ht hl]
theorem compGo_mapG {α : Type} {fr : Sl} {t : TDen} {e : Den} {inj : α → PV} {g : α → Int} : ∀ (l : List α),(∀ x ∈ l,t (.val (inj x) :: fr) = some true) → (∀ x ∈ l,e (.val (inj x) :: fr) = some (.int (g x))) → compGo take1 fr t e (l.map inj) = some ((l.map g).map .int)
  | [],_,_ => rfl
  | a :: r,ht,he => by
    simp only [List.map_cons,compGo,take1,List.map_nil,List.cons_append,List.nil_append]
    rw [ht a (.head _),he a (.head _),compGo_mapG r (fun x q => ht x (.tail _ q)) (fun x q => he x (.tail _ q))]
noncomputable def adj (P : Int → Int → Bool) : List Int → Nat
  | [] => 0
  | [_] => 0
  | a :: b :: r => (if P a b then 1 else 0) + adj P (b :: r)
theorem adj_range (P : Int → Int → Bool) : ∀ (l : List Int),((List.range (l.length - 1)).filter fun i => P (l.getD i 0) (l.getD (i + 1) 0)).length = adj P l
  | [] => rfl
  | [_] => rfl
  | a :: b :: r => by
    have ih := adj_range P (b :: r)
    simp only [List.length_cons,Nat.add_sub_cancel] at ih ⊢
    rw [List.range_succ_eq_map,List.filter_cons,List.filter_map]
    have e : (fun i => P ((a :: b :: r).getD i 0) ((a :: b :: r).getD (i + 1) 0)) ∘ Nat.succ = fun i => P ((b :: r).getD i 0) ((b :: r).getD (i + 1) 0) := by
      funext i; simp
    rw [e]
    rw [adj]
    simp only [List.getD_cons_succ] at ih
    by_cases h : P a b
    · simp only [List.getD_cons_zero,List.getD_cons_succ,h,if_true,List.length_cons,List.length_map,ih]; lia
    · simp only [List.getD_cons_zero,List.getD_cons_succ,h,List.length_map,ih,Bool.false_eq_true,if_false]; lia
theorem una_some {f : PV → Option PV} {a : Den} {σ : Sl} {x : PV} (h : a σ = some x) : una f a σ = f x := by unfold una; rw [h]
theorem okR_small (a b : Int) (h : a.natAbs ≤ 1000000) (h' : b.natAbs ≤ 1000000) : okR a b = true := by
  unfold okR
  rw [decide_eq_true (show a.natAbs ≤ lenMax from h),decide_eq_true (show b.natAbs ≤ lenMax from h')]
  rfl
noncomputable def chgH (t : Int) (row : List (List Int)) : Nat := adj (fun a b => !(b == a)) ((row.map fun l => sgnI (valH t 0 l)).filter fun x => !(x == 0))
theorem getD_idx (l : List Int) (i : Nat) (h : i < l.length) : idxV (pvI l) (.int i) = some (.int (l.getD i 0)) := by
  rw [idxV_pvI l i h,List.getD_eq_getElem?_getD,List.getElem?_eq_getElem h]; rfl
theorem e_changes_at {row : List (List Int)} {t : Int} (ht : Sm 1 t) (hr : row.length ≤ 1000) (hl : ∀ l ∈ row,Gd 100 4000 l) : d_changes_at [.list (row.map pvR),.tup [.int t,.int 1]] = some (.int (chgH t row)) := by
  have c1 : comp (itv (vr 0)) take1 [1] ttrue (call d_sign_at [(vr 0),(vr 1)]) [.val (.list (row.map pvR)),.val (.tup [.int t,.int 1]),.unset] = some (pvI (row.map fun l => sgnI (valH t 0 l))) :=
    comp_eq (xs := row.map pvR) rfl (by simp [lenMax_eq]; lia) (take1_all _) (F := [.val (.tup [.int t,.int 1])]) rfl (compGo_mapG row (fun _ _ => rfl) fun x hx => by
      simp only [run,sSeq,sRet,sAsg,sTup,sUnp,sIf,sNop,sOwn,sFrz,sDrop,sM0,sM1,sM2,evs,bin,una,vr,ci,cst,ifx,tcmp,tand,tor,tnot,tval,vtst,lst,tpl,idx_app,call,List.map_cons,List.map_nil,List.length_cons,List.length_nil,List.cons_append,List.nil_append,List.getElem?_cons_zero,List.getElem?_cons_succ,List.set_cons_zero,List.set_cons_succ,List.replicate,List.replicate_zero,List.replicate_succ,Nat.reduceAdd,Nat.reduceSub,if_true,decide_true,decide_false,e_sign_at ht (hl x hx)])
  generalize hs : (row.map fun l => sgnI (valH t 0 l)) = s at c1
  have sl : s.length = row.length := by rw [← hs]; simp
  have c2 : comp (itv (vr 2)) take1 [] (tcmp neV (vr 0) (ci 0)) (vr 0) [.val (.list (row.map pvR)),.val (.tup [.int t,.int 1]),.val (pvI s)] = some (pvI (s.filter fun x => !(x == 0))) :=
    comp_eq (xs := s.map .int) rfl (by simp [lenMax_eq]; lia) (take1_all _) (F := []) rfl (by
      have := compGo_filter (fr := []) (t := tcmp neV (vr 0) (ci 0)) (e := vr 0) (q := fun x => !(x == 0)) (g := id) s (fun x _ => rfl) (fun x _ => rfl)
      simpa using this)
  generalize hk : (s.filter fun x => !(x == 0)) = k at c2
  have kl : k.length ≤ s.length := by rw [← hk]; exact List.length_filter_le _ _
  have c3 : una lenV (comp (itUp (ci 1) (una lenV (vr 2))) take1 [2] (tcmp neV (idx (vr 1) (vr 0)) (idx (vr 1) (bin subV (vr 0) (ci 1)))) (ci 1)) [.val (.list (row.map pvR)),.val (.tup [.int t,.int 1]),.val (pvI k)] = some (.int (adj (fun a b => !(b == a)) k)) := by
    have hit : itUp (ci 1) (una lenV (vr 2)) [.val (.list (row.map pvR)),.val (.tup [.int t,.int 1]),.val (pvI k)] = some (((List.range (k.length - 1)).map fun (i : Nat) => (1 : Int) + i).map .int) := by
      simp only [itUp,run,sSeq,sRet,sAsg,sTup,sUnp,sIf,sNop,sOwn,sFrz,sDrop,sM0,sM1,sM2,evs,bin,una,vr,ci,cst,ifx,tcmp,tand,tor,tnot,tval,vtst,lst,tpl,idx_app,call,List.map_cons,List.map_nil,List.length_cons,List.length_nil,List.cons_append,List.nil_append,List.getElem?_cons_zero,List.getElem?_cons_succ,List.set_cons_zero,List.set_cons_succ,List.replicate,List.replicate_zero,List.replicate_succ,Nat.reduceAdd,Nat.reduceSub,if_true,decide_true,decide_false,lenV_pvI,okR_small 1 (k.length : Int) (by decide) (by lia)]
      rw [upto_ints]
      congr 4
      lia
    have hc := comp_eq (e := ci 1) (t := tcmp neV (idx (vr 1) (vr 0)) (idx (vr 1) (bin subV (vr 0) (ci 1)))) (fr := [2]) hit (by rw [List.length_map,List.length_map,List.length_range,lenMax_eq]; lia) (take1_all _) (F := [.val (pvI k)]) rfl
      (compGo_filter (q := fun x => !(k.getD x.toNat 0 == k.getD (x - 1).toNat 0)) (g := fun _ => 1) _ (fun x hx => by
        obtain ⟨i,hi,rfl⟩ := List.mem_map.mp hx
        rw [List.mem_range] at hi
        have i1 := getD_idx k (i + 1) (by lia)
        have i2 := getD_idx k i (by lia)
        have e1 : (1 : Int) + (i : Int) = ((i + 1 : Nat) : Int) := by lia
        have e2 : ((i + 1 : Nat) : Int) - 1 = (i : Int) := by lia
        rw [e1]
        simp only [run,sSeq,sRet,sAsg,sTup,sUnp,sIf,sNop,sOwn,sFrz,sDrop,sM0,sM1,sM2,evs,bin,una,vr,ci,cst,ifx,tcmp,tand,tor,tnot,tval,vtst,lst,tpl,idx_app,call,List.map_cons,List.map_nil,List.length_cons,List.length_nil,List.cons_append,List.nil_append,List.getElem?_cons_zero,List.getElem?_cons_succ,List.set_cons_zero,List.set_cons_succ,List.replicate,List.replicate_zero,List.replicate_succ,Nat.reduceAdd,Nat.reduceSub,if_true,decide_true,decide_false,i1,i2,subV,e2,neV_int,Int.toNat_natCast]) (fun x hx => rfl))
    rw [una_some hc]
    simp only [lenV,List.length_map,Option.some.injEq,PV.int.injEq]
    rw [← adj_range,List.filter_map,List.length_map]
    congr 2
    refine List.filter_congr fun i _ => ?_
    have e1 : ((1 : Int) + (i : Int)).toNat = i + 1 := by lia
    have e2 : ((1 : Int) + (i : Int) - 1).toNat = i := by lia
    simp only [Function.comp,e1,e2]
  show run 3 b_changes_at [.list (row.map pvR),.tup [.int t,.int 1]] = _
  unfold chgH
  rw [hs,hk]
  simp only [run,sSeq,sAsg,sRet,b_changes_at,List.map_cons,List.map_nil,List.length_cons,List.length_nil,List.cons_append,List.nil_append,List.replicate,Nat.reduceAdd,Nat.reduceSub,c1,List.set_cons_succ,List.set_cons_zero,c2,c3]
theorem e_count_by_row {row : List (List Int)} (hr : row.length ≤ 1000) (hl : ∀ l ∈ row,Gd 100 4000 l) : d_count_by_row [.list (row.map pvR),.tup [.int 0,.int 1],.tup [.int 1,.int 1]] = some (.int ((chgH 0 row : Int) - chgH 1 row)) := by
  have e0 := e_changes_at (t := 0) (by unfold Sm; decide) hr hl
  have e1 := e_changes_at (t := 1) (by unfold Sm; decide) hr hl
  show run 3 b_count_by_row [.list (row.map pvR),.tup [.int 0,.int 1],.tup [.int 1,.int 1]] = _
  simp only [run,sSeq,sRet,sAsg,sTup,sUnp,sIf,sNop,sOwn,sFrz,sDrop,sM0,sM1,sM2,evs,bin,una,vr,ci,cst,ifx,tcmp,tand,tor,tnot,tval,vtst,lst,tpl,idx_app,call,List.map_cons,List.map_nil,List.length_cons,List.length_nil,List.cons_append,List.nil_append,List.getElem?_cons_zero,List.getElem?_cons_succ,List.set_cons_zero,List.set_cons_succ,List.replicate,List.replicate_zero,List.replicate_succ,Nat.reduceAdd,Nat.reduceSub,if_true,decide_true,decide_false,b_count_by_row,e0,e1,subV]
end Mine
end
section
open PySem PySem.W PyProof.Rows
set_option exponentiation.threshold 10000
namespace Mine
noncomputable def smD (x : Int) : Bool := Nat.ble x.natAbs.log2 3999
theorem smD_sm {x : Int} (h : smD x = true) : Sm 4000 x := by
  have := Nat.le_of_ble_eq_true h
  unfold Sm
  by_cases z : x.natAbs = 0
  · rw [z]; exact Nat.pow_pos (by decide)
  · exact (Nat.log2_lt z).mp (Nat.lt_succ_of_le this)
theorem sm_smD {x : Int} (h : Sm 4000 x) : smD x = true := by
  refine Nat.ble_eq_true_of_le ?_
  unfold Sm at h
  by_cases z : x.natAbs = 0
  · rw [z]; decide
  · exact Nat.le_of_lt_succ ((Nat.log2_lt z).mpr h)
noncomputable def primH (l : List Int) : List Int := match l with
  | [] => []
  | a :: r => divL (a :: r) (if a > 0 then (gcdL 0 (a :: r) : Int) else -(gcdL 0 (a :: r) : Int))
theorem e_zprimitiveH {a : Int} {r : List Int} (hl : (a :: r).length ≤ 1000) (ha : a ≠ 0) : d_zprimitive [pvR (a :: r)] = some (pvR (primH (a :: r))) := by
  have hlast : lastI (a :: r).reverse = a := by rw [List.reverse_cons,lastI_snoc]
  have h := e_zprimitive (a :: r).reverse (by rw [List.length_reverse]; exact hl) (.inr (by rw [hlast]; exact ha))
  unfold pvR
  rw [h]
  unfold primP primH
  rw [if_neg (by simp),hlast,gcdL_rev,divL_rev]
theorem e_zpseudo_restH {n : Nat} {y : Int} {a bs : List Int} (ha : Gd 100 n a) (hb : Gd 100 n (y :: bs)) (hn : n ≤ 4000) (hy : y ≠ 0) :
    d_zpseudo_rest [pvR a,pvR (y :: bs)] = some (pvR (psH y bs (a.length - bs.length) a)) := by
  obtain ⟨q,h⟩ := e_pseudoH ha hb hn hy
  show run 2 b_zpseudo_rest [pvR a,pvR (y :: bs)] = _
  simp only [run,sSeq,sRet,sAsg,sTup,sUnp,sIf,sNop,sOwn,sFrz,sDrop,sM0,sM1,sM2,evs,bin,una,vr,ci,cst,ifx,tcmp,tand,tor,tnot,tval,vtst,lst,tpl,idx_app,call,List.map_cons,List.map_nil,List.length_cons,List.length_nil,List.cons_append,List.nil_append,List.getElem?_cons_zero,List.getElem?_cons_succ,List.set_cons_zero,List.set_cons_succ,List.replicate,List.replicate_zero,List.replicate_succ,Nat.reduceAdd,Nat.reduceSub,if_true,decide_true,decide_false,b_zpseudo_rest,h]
  rfl
noncomputable def nhH (st : Nat) (fr he : Int) : Int := if st = 0 then he else (fr ^ st).fdiv (he ^ (st - 1))
theorem e_next_height {st : Nat} {fr he : Int} (hf : Sm 4000 fr) (hh : Sm 4000 he) (h0 : he ≠ 0) (hs : st ≤ 100) : d_next_height [.int fr,.int st,.int he] = some (.int (nhH st fr he)) := by
  show run 3 b_next_height [.int fr,.int st,.int he] = _
  unfold nhH
  by_cases z : st = 0
  · subst z; simp only [run,sSeq,sRet,sAsg,sTup,sUnp,sIf,sNop,sOwn,sFrz,sDrop,sM0,sM1,sM2,evs,bin,una,vr,ci,cst,ifx,tcmp,tand,tor,tnot,tval,vtst,lst,tpl,idx_app,call,List.map_cons,List.map_nil,List.length_cons,List.length_nil,List.cons_append,List.nil_append,List.getElem?_cons_zero,List.getElem?_cons_succ,List.set_cons_zero,List.set_cons_succ,List.replicate,List.replicate_zero,List.replicate_succ,Nat.reduceAdd,Nat.reduceSub,if_true,decide_true,decide_false,b_next_height,eqV_int]; simp
  · have zb : (((st : Nat) : Int) == 0) = false := by simp; exact z
    have e1 := powV_ok (k := (st : Int)) hf (by decide) (by lia) (by lia)
    have e2 := powV_ok (k := ((st : Int) - 1)) hh (by decide) (by lia) (by lia)
    rw [Int.toNat_natCast] at e1
    rw [show ((st : Int) - 1).toNat = st - 1 by lia] at e2
    simp only [run,sSeq,sRet,sAsg,sTup,sUnp,sIf,sNop,sOwn,sFrz,sDrop,sM0,sM1,sM2,evs,bin,una,vr,ci,cst,ifx,tcmp,tand,tor,tnot,tval,vtst,lst,tpl,idx_app,call,List.map_cons,List.map_nil,List.length_cons,List.length_nil,List.cons_append,List.nil_append,List.getElem?_cons_zero,List.getElem?_cons_succ,List.set_cons_zero,List.set_cons_succ,List.replicate,List.replicate_zero,List.replicate_succ,Nat.reduceAdd,Nat.reduceSub,if_true,decide_true,decide_false,b_next_height,eqV_int,zb,subV,e1,e2,fdivV,Int.pow_ne_zero h0,if_false,z]
noncomputable def subH : Nat → List Int → List Int → Int → Int → Option (List Int)
  | 0,_,_,_,_ => none
  | n + 1,a,b,fr,he => match b with
    | [] => some []
    | [y] => some [y]
    | y :: z :: bs => if y ≠ 0 ∧ bs.length + 2 ≤ a.length ∧ gdB a = true ∧ gdB (y :: z :: bs) = true ∧ smD fr = true ∧ smD he = true ∧ he ≠ 0 ∧ fr ≠ 0 then
        (match psH y (z :: bs) (a.length - (bs.length + 1)) a with
        | [] => some (y :: z :: bs)
        | c :: cs => subH n (y :: z :: bs) (divL (c :: cs) (fr * he ^ (a.length - (bs.length + 2)))) y (nhH (a.length - (bs.length + 2)) y he)) else none
theorem sub_loop : ∀ (fuel N : Nat) (a b : List Int) (fr he : Int) (last : List Int) (pre : List PV) (s5 s6 : Slot),subH fuel a b fr he = some last → fuel ≤ N → pre.length + N < 900000 →
    ∃ pre',pre'.length ≤ pre.length + N ∧ ((whileN (tcmp gtV (una lenV (vr 1)) (ci 1))
 (sSeq (sAsg 5 (bin subV (una lenV (vr 0)) (una lenV (vr 1))))
  (sSeq (sAsg 6 (call d_zpseudo_rest [(vr 0),(vr 1)]))
  (sSeq (sIf (tcmp eqV (una lenV (vr 6)) (ci 0))
  (sSeq (sFrz 2)
   (sRet (vr 2)))
  sNop)
  (sSeq (sTup [(0,false),(1,false)] [(vr 1),(call d_zdivided [(vr 6),(bin mulV (vr 3) (bin powV (vr 4) (vr 5)))])])
  (sSeq (sApp 2 (vr 1))
  (sSeq (sAsg 3 (call d_zlead [(vr 0)]))
  (sAsg 4 (call d_next_height [(vr 3),(vr 5),(vr 4)]))))))))
   N [.val (pvR a),.val (pvR b),.own (pre ++ [pvR b]),.val (.int fr),.val (.int he),s5,s6] = some (.ret (.list (pre' ++ [pvR last])))) ∨
    (∃ x0 x1 x3 x4 x5 x6,whileN (tcmp gtV (una lenV (vr 1)) (ci 1))
 (sSeq (sAsg 5 (bin subV (una lenV (vr 0)) (una lenV (vr 1))))
  (sSeq (sAsg 6 (call d_zpseudo_rest [(vr 0),(vr 1)]))
  (sSeq (sIf (tcmp eqV (una lenV (vr 6)) (ci 0))
  (sSeq (sFrz 2)
   (sRet (vr 2)))
  sNop)
  (sSeq (sTup [(0,false),(1,false)] [(vr 1),(call d_zdivided [(vr 6),(bin mulV (vr 3) (bin powV (vr 4) (vr 5)))])])
  (sSeq (sApp 2 (vr 1))
  (sSeq (sAsg 3 (call d_zlead [(vr 0)]))
  (sAsg 4 (call d_next_height [(vr 3),(vr 5),(vr 4)]))))))))
   N [.val (pvR a),.val (pvR b),.own (pre ++ [pvR b]),.val (.int fr),.val (.int he),s5,s6] = some (.next [x0,x1,.own (pre' ++ [pvR last]),x3,x4,x5,x6])))
  | 0,_,_,_,_,_,_,_,_,_,h,_,_ => by unfold subH at h; cases h
  | fuel + 1,0,_,_,_,_,_,_,_,_,_,h,_ => by lia
  | fuel + 1,N + 1,a,b,fr,he,last,pre,s5,s6,h,hN,hp => by
    unfold subH at h
    split at h
    · cases h
      refine ⟨pre,by lia,.inr ⟨.val (pvR a),.val (pvR []),.val (.int fr),.val (.int he),s5,s6,?_⟩⟩
      rw [whileN]
      simp [run,sSeq,sRet,sAsg,sTup,sUnp,sIf,sNop,sOwn,sFrz,sDrop,sM0,sM1,sM2,evs,bin,una,vr,ci,cst,ifx,tcmp,tand,tor,tnot,tval,vtst,lst,tpl,idx_app,call,List.map_cons,List.map_nil,List.length_cons,List.length_nil,List.cons_append,List.nil_append,List.getElem?_cons_zero,List.getElem?_cons_succ,List.set_cons_zero,List.set_cons_succ,List.replicate,List.replicate_zero,List.replicate_succ,Nat.reduceAdd,Nat.reduceSub,if_true,decide_true,decide_false,lenV_pvI,gtV]
    · cases h
      rename_i y
      refine ⟨pre,by lia,.inr ⟨.val (pvR a),.val (pvR [y]),.val (.int fr),.val (.int he),s5,s6,?_⟩⟩
      rw [whileN]
      simp [run,sSeq,sRet,sAsg,sTup,sUnp,sIf,sNop,sOwn,sFrz,sDrop,sM0,sM1,sM2,evs,bin,una,vr,ci,cst,ifx,tcmp,tand,tor,tnot,tval,vtst,lst,tpl,idx_app,call,List.map_cons,List.map_nil,List.length_cons,List.length_nil,List.cons_append,List.nil_append,List.getElem?_cons_zero,List.getElem?_cons_succ,List.set_cons_zero,List.set_cons_succ,List.replicate,List.replicate_zero,List.replicate_succ,Nat.reduceAdd,Nat.reduceSub,if_true,decide_true,decide_false,lenV_pvI,gtV]
    · rename_i y z bs
      split at h
      case isFalse => cases h
      rename_i hg
      obtain ⟨hy,hl,ga,gb,sf,sh,h0,hf0⟩ := hg
      have ga' := gdB_gd ga
      have gb' := gdB_gd gb
      have sf' := smD_sm sf
      have sh' := smD_sm sh
      have al := ga'.len
      have bl := gb'.len
      simp only [List.length_cons] at bl
      have e1 := e_zpseudo_restH ga' gb' (Nat.le_refl _) hy
      have hg : decide (((y :: z :: bs).reverse.length : Int) > 1) = true := decide_eq_true (by simp; lia)
      have hst : ((a.reverse.length : Int) - ((y :: z :: bs).reverse.length : Int)) = ((a.length - (bs.length + 2) : Nat) : Int) := by simp; lia
      simp only [List.length_cons] at e1
      split at h
      · rename_i hz
        cases h
        rw [hz] at e1
        refine ⟨pre,by lia,.inl ?_⟩
        have hlen : (pre ++ [pvR (y :: z :: bs)]).length ≤ lenMax := by rw [lenMax_eq]; simp; lia
        rw [whileN]
        simp only [run,sSeq,sRet,sAsg,sTup,sUnp,sIf,sNop,sOwn,sFrz,sDrop,sM0,sM1,sM2,evs,bin,una,vr,ci,cst,ifx,tcmp,tand,tor,tnot,tval,vtst,lst,tpl,idx_app,call,List.map_cons,List.map_nil,List.length_cons,List.length_nil,List.cons_append,List.nil_append,List.getElem?_cons_zero,List.getElem?_cons_succ,List.set_cons_zero,List.set_cons_succ,List.replicate,List.replicate_zero,List.replicate_succ,Nat.reduceAdd,Nat.reduceSub,if_true,decide_true,decide_false,lenV_pvI,gtV,hg,subV,e1,List.reverse_nil,eqV_int,hlen]
        simp [hlen]
      · rename_i c cs hz
        rw [hz] at e1
        have pl := psH_length y (z :: bs) (a.length - (bs.length + 1)) a
        rw [hz] at pl
        simp only [List.length_cons] at pl
        have hne : ((((c :: cs).reverse.length : Nat) : Int) == 0) = false := by simp; lia
        have hd0 : fr * he ^ (a.length - (bs.length + 2)) ≠ 0 := Int.mul_ne_zero hf0 (Int.pow_ne_zero h0)
        have e2 := powV_ok (k := ((a.length - (bs.length + 2) : Nat) : Int)) sh' (by decide) (by lia) (by lia)
        rw [Int.toNat_natCast] at e2
        have spw := sh'.pow (a.length - (bs.length + 2))
        have hmul2 : 4000 * (a.length - (bs.length + 2)) ≤ 4000 * 100 := Nat.mul_le_mul (Nat.le_refl _) (by lia)
        have e3 := mulV_ok sf' spw (by decide) (by lia)
        have e4 := e_zdivided (c :: cs).reverse _ (by simp; lia) hd0
        rw [divL_rev] at e4
        have e5 := e_next_height (st := a.length - (bs.length + 2)) (gb'.sm y (.head _)) sh' h0 (by lia)
        have hlast : lastI (y :: z :: bs).reverse = y := by rw [List.reverse_cons,lastI_snoc]
        have hlen : (pre ++ [pvR (y :: z :: bs)]).length < lenMax := by rw [lenMax_eq]; simp; lia
        obtain ⟨pre',hp',hh⟩ := sub_loop fuel N (y :: z :: bs) _ y _ last (pre ++ [pvR (y :: z :: bs)]) (.val (.int ((a.length - (bs.length + 2) : Nat) : Int))) (.val (pvR (c :: cs))) h (by lia) (by simp; lia)
        refine ⟨pre',by simp at hp'; lia,?_⟩
        rw [whileN]
        simp only [run,sSeq,sRet,sAsg,sTup,sUnp,sIf,sNop,sOwn,sFrz,sDrop,sM0,sM1,sM2,evs,bin,una,vr,ci,cst,ifx,tcmp,tand,tor,tnot,tval,vtst,lst,tpl,idx_app,call,List.map_cons,List.map_nil,List.length_cons,List.length_nil,List.cons_append,List.nil_append,List.getElem?_cons_zero,List.getElem?_cons_succ,List.set_cons_zero,List.set_cons_succ,List.replicate,List.replicate_zero,List.replicate_succ,Nat.reduceAdd,Nat.reduceSub,if_true,decide_true,decide_false,lenV_pvI,gtV,hg,subV,hst,e1,eqV_int,hne,e2,e3,e4,sApp,hlen,e_zlead,hlast,e5]
        exact hh
theorem e_subresultants {a b last : List Int} (hab : b.length ≤ a.length) (hb : b.length ≤ 100) (h : subH (b.length + 3) a b 1 1 = some last) : ∃ pre,d_subresultants [pvR a,pvR b] = some (.list (pre ++ [pvR last])) := by
  have hd : decide (((a.reverse.length : Nat) : Int) < ((b.reverse.length : Nat) : Int)) = false := decide_eq_false (by simp; lia)
  obtain ⟨pre',hp',hh⟩ := sub_loop _ (b.length + 3) a b 1 1 last [pvR a] .unset .unset h (Nat.le_refl _) (by simp; lia)
  have hlen : (pre' ++ [pvR last]).length ≤ lenMax := by rw [lenMax_eq]; simp at hp' ⊢; lia
  refine ⟨pre',?_⟩
  have hf : fuelL 1 [.val (pvR a),.val (pvR b),.own [pvR a,pvR b],.val (.int 1),.val (.int 1),.unset,.unset] = b.length + 3 := by
    simp [fuelL,pvI]
  simp only [List.cons_append,List.nil_append] at hh
  show run 7 b_subresultants [pvR a,pvR b] = _
  simp only [run,sSeq,sRet,sAsg,sTup,sUnp,sIf,sNop,sOwn,sFrz,sDrop,sM0,sM1,sM2,evs,bin,una,vr,ci,cst,ifx,tcmp,tand,tor,tnot,tval,vtst,lst,tpl,idx_app,call,List.map_cons,List.map_nil,List.length_cons,List.length_nil,List.cons_append,List.nil_append,List.getElem?_cons_zero,List.getElem?_cons_succ,List.set_cons_zero,List.set_cons_succ,List.replicate,List.replicate_zero,List.replicate_succ,Nat.reduceAdd,Nat.reduceSub,if_true,decide_true,decide_false,b_subresultants,lenV_pvI,ltV,hd,listV_pvI,sWhile,hf]
  rcases hh with hh | ⟨x0,x1,x3,x4,x5,x6,hh⟩
  · rw [hh]
  · rw [hh]
    simp only [run,sSeq,sRet,sAsg,sTup,sUnp,sIf,sNop,sOwn,sFrz,sDrop,sM0,sM1,sM2,evs,bin,una,vr,ci,cst,ifx,tcmp,tand,tor,tnot,tval,vtst,lst,tpl,idx_app,call,List.map_cons,List.map_nil,List.length_cons,List.length_nil,List.cons_append,List.nil_append,List.getElem?_cons_zero,List.getElem?_cons_succ,List.set_cons_zero,List.set_cons_succ,List.replicate,List.replicate_zero,List.replicate_succ,Nat.reduceAdd,Nat.reduceSub,if_true,decide_true,decide_false,hlen,if_true]
noncomputable def numH (a b : List Int) : Nat := Nat.gcd (gcdL 0 a) (gcdL 0 b)
noncomputable def zgcdH (a b : List Int) : Option (List Int) := match subH (b.length + 3) (primH a) (primH b) 1 1 with
  | none => none
  | some last => match last with
    | y :: z :: bs => if y ≠ 0 ∧ gdB (primH (y :: z :: bs)) = true ∧ smD (numH a b) = true ∧ bs.length ≤ 100 then some (scaleP (primH (y :: z :: bs)) (numH a b)) else none
    | _ => some [(numH a b : Int)]
theorem scaleP_rev (p : List Int) (k : Int) : scaleP p.reverse k = (scaleP p k).reverse := by
  unfold scaleP; split <;> simp
theorem primH_length (l : List Int) : (primH l).length = l.length := by
  cases l <;> simp [primH,divL]
theorem e_zgcd {a0 b0 : Int} {a b c : List Int} (hab : b.length ≤ a.length) (hal : a.length ≤ 99) (ha0 : a0 ≠ 0) (hb0 : b0 ≠ 0) (h : zgcdH (a0 :: a) (b0 :: b) = some c) : d_zgcd [pvR (a0 :: a),pvR (b0 :: b)] = some (pvR c) := by
  have z1 : ((((a0 :: a).reverse.length : Nat) : Int) == 0) = false := by simp; lia
  have z2 : ((((b0 :: b).reverse.length : Nat) : Int) == 0) = false := by simp; lia
  have e1 := e_zprimitiveH (a := a0) (r := a) (by simp; lia) ha0
  have e2 := e_zprimitiveH (a := b0) (r := b) (by simp; lia) hb0
  unfold zgcdH at h
  split at h
  · cases h
  · rename_i last hs
    rw [show (b0 :: b).length = (primH (b0 :: b)).length from (primH_length _).symm] at hs
    obtain ⟨pre,e3⟩ := e_subresultants (by simp [primH_length]; lia) (by simp [primH_length]; lia) hs
    have e4 := idxL_m1 pre (pvR last)
    have e5 : d_gcd [.int (gcdL 0 (a0 :: a) : Nat),.int (gcdL 0 (b0 :: b) : Nat)] = some (.int (numH (a0 :: a) (b0 :: b) : Nat)) := by
      rw [e_gcd]; rfl
    show run 5 b_zgcd [pvR (a0 :: a),pvR (b0 :: b)] = _
    split at h
    · rename_i y z bs
      split at h
      case isFalse => cases h
      rename_i hg
      obtain ⟨hy,gp,sn,hbl⟩ := hg
      cases h
      have hg2 : decide ((((y :: z :: bs).reverse.length : Nat) : Int) > 1) = true := decide_eq_true (by simp; lia)
      have e6 := e_zprimitiveH (a := y) (r := z :: bs) (by simp; lia) hy
      have e7 := e_zscale (primH (y :: z :: bs)).reverse (numH (a0 :: a) (b0 :: b) : Nat) ((gdB_gd gp).rev.of_le (by have := (gdB_gd gp).len; simp; lia)) (smD_sm sn) (by decide) (by decide)
      rw [scaleP_rev] at e7
      simp only [run,sSeq,sRet,sAsg,sTup,sUnp,sIf,sNop,sOwn,sFrz,sDrop,sM0,sM1,sM2,evs,bin,una,vr,ci,cst,ifx,tcmp,tand,tor,tnot,tval,vtst,lst,tpl,idx_app,call,List.map_cons,List.map_nil,List.length_cons,List.length_nil,List.cons_append,List.nil_append,List.getElem?_cons_zero,List.getElem?_cons_succ,List.set_cons_zero,List.set_cons_succ,List.replicate,List.replicate_zero,List.replicate_succ,Nat.reduceAdd,Nat.reduceSub,if_true,decide_true,decide_false,b_zgcd,lenV_pvI,eqV_int,z1,z2,e_zcontent,gcdL_rev,e5,e1,e2,e3,idxV,negV,e4,gtV,hg2,e6,e7]
    · rename_i hne
      cases h
      have hg2 : decide (((last.reverse.length : Nat) : Int) > 1) = false := decide_eq_false (by
        match last,hne with
        | [],_ => simp
        | [_],_ => simp
        | y :: z :: bs,hne => exact (hne y z bs rfl).elim)
      simp only [run,sSeq,sRet,sAsg,sTup,sUnp,sIf,sNop,sOwn,sFrz,sDrop,sM0,sM1,sM2,evs,bin,una,vr,ci,cst,ifx,tcmp,tand,tor,tnot,tval,vtst,lst,tpl,idx_app,call,List.map_cons,List.map_nil,List.length_cons,List.length_nil,List.cons_append,List.nil_append,List.getElem?_cons_zero,List.getElem?_cons_succ,List.set_cons_zero,List.set_cons_succ,List.replicate,List.replicate_zero,List.replicate_succ,Nat.reduceAdd,Nat.reduceSub,if_true,decide_true,decide_false,b_zgcd,lenV_pvI,eqV_int,z1,z2,e_zcontent,gcdL_rev,e5,e1,e2,e3,idxV,negV,e4,gtV,hg2]
      rfl
end Mine
end
section
open PySem PySem.W PyProof.Rows
set_option exponentiation.threshold 10000
namespace Mine
theorem exR_eq {y q : Int} {bs rt : List Int} (hy : y ≠ 0) (h : bs.length ≤ rt.length) : subP (rt.reverse ++ [y * q]) (raiseP (scaleP (bs.reverse ++ [y]) q) (rt.length - bs.length)) = (trH (rnd 1 q rt bs)).reverse := by
  unfold subP
  have hid : rt.reverse.map (· * 1) = rt.reverse := by simp
  by_cases hq : q = 0
  · subst hq
    have e2 : scaleP (bs.reverse ++ [y]) 0 = [] := by unfold scaleP; rw [if_pos rfl]
    rw [e2,show raiseP [] _ = ([] : List Int) from rfl,show negL [] = [] from rfl,addL_nil,Int.mul_zero,trimP_snoc_zero,rnd_zero,trimP_rev]
    simp
  · have e2 : scaleP (bs.reverse ++ [y]) q = bs.reverse.map (· * q) ++ [y * q] := by
      unfold scaleP; rw [if_neg hq,List.map_append]; rfl
    rw [e2]
    have e4 : raiseP (bs.reverse.map (· * q) ++ [y * q]) (rt.length - bs.length) = (List.replicate (rt.length - bs.length) 0 ++ bs.reverse.map (· * q)) ++ [y * q] := by
      unfold raiseP; rw [if_neg (by simp),List.append_assoc]
    rw [e4]
    have e5 : negL ((List.replicate (rt.length - bs.length) 0 ++ bs.reverse.map (· * q)) ++ [y * q]) = negL (List.replicate (rt.length - bs.length) 0 ++ bs.reverse.map (· * q)) ++ [-(y * q)] := by
      unfold negL; rw [List.map_append]; rfl
    have e6 := rnd_eq 1 q rt bs h
    rw [hid] at e6
    rw [e5,addL_snoc _ _ _ _ (by simp [negL]; lia),e6]
    rw [show y * q + -(y * q) = 0 by lia,trimP_snoc_zero,trimP_rev]
noncomputable def exGo (y : Int) (bs : List Int) : Nat → List Int → List Int → Option (List Int)
  | 0,_,_ => none
  | n + 1,rs,fd => match rs with
    | [] => some (trimP fd)
    | r :: rt => if bs.length ≤ rt.length ∧ r.fmod y = 0 ∧ gdB (y :: bs) = true ∧ gdB (r :: rt) = true ∧ smD (r.fdiv y) = true ∧ rt.length - bs.length < fd.length ∧ fd.length ≤ 100 then
        exGo y bs n (trH (rnd 1 (r.fdiv y) rt bs)) (fd.set (rt.length - bs.length) (r.fdiv y)) else none
theorem idxL_int_m1 (l : List Int) (a : Int) : idxV (pvI (l ++ [a])) (.int (-1)) = some (.int a) := by
  have := idxV_last (l ++ [a]) (by simp)
  rw [lastI_snoc] at this
  exact this
theorem ex_loop {a : Slot} {y : Int} {bs : List Int} (hy : y ≠ 0) : ∀ (fuel N : Nat) (rs fd g : List Int) (s4 s5 : Slot),exGo y bs fuel rs fd = some g → fuel ≤ N → fd.length ≤ 100 →
    ∃ fd' t4 t5,g = trimP fd' ∧ fd'.length ≤ 100 ∧ whileN (tcmp geV (una lenV (vr 2)) (una lenV (vr 1)))
 (sSeq (sIf (tcmp neV (bin modV (idx (vr 2) (una negV (ci 1))) (idx (vr 1) (una negV (ci 1)))) (ci 0))
  (sRet (cst .none))
  sNop)
  (sSeq (sTup [(4,false),(5,false)] [(bin fdivV (idx (vr 2) (una negV (ci 1))) (idx (vr 1) (una negV (ci 1)))),(bin subV (una lenV (vr 2)) (una lenV (vr 1)))])
  (sSeq (sSet 3 (vr 5) (vr 4))
  (sAsg 2 (call d_zsub [(vr 2),(call d_zraise [(call d_zscale [(vr 1),(vr 4)]),(vr 5)])]))))) N [a,.val (pvR (y :: bs)),.val (pvR rs),.own (fd.map .int),s4,s5] =
    some (.next [a,.val (pvR (y :: bs)),.val (pvR []),.own (fd'.map .int),t4,t5])
  | 0,_,_,_,_,_,_,h,_,_ => by unfold exGo at h; cases h
  | fuel + 1,0,_,_,_,_,_,_,h,_ => by lia
  | fuel + 1,N + 1,rs,fd,g,s4,s5,h,hN,hfd => by
    unfold exGo at h
    split at h
    · cases h
      refine ⟨fd,s4,s5,rfl,hfd,?_⟩
      rw [whileN]
      have hd : decide (((([] : List Int).reverse.length : Nat) : Int) ≥ (((y :: bs).reverse.length : Nat) : Int)) = false := decide_eq_false (by simp only [List.length_reverse,List.length_cons,List.length_nil]; lia)
      simp only [run,sSeq,sRet,sAsg,sTup,sUnp,sIf,sNop,sOwn,sFrz,sDrop,sM0,sM1,sM2,evs,bin,una,vr,ci,cst,ifx,tcmp,tand,tor,tnot,tval,vtst,lst,tpl,idx_app,call,List.map_cons,List.map_nil,List.length_cons,List.length_nil,List.cons_append,List.nil_append,List.getElem?_cons_zero,List.getElem?_cons_succ,List.set_cons_zero,List.set_cons_succ,List.replicate,List.replicate_zero,List.replicate_succ,Nat.reduceAdd,Nat.reduceSub,if_true,decide_true,decide_false,lenV_pvI,geV,hd]
    · rename_i r rt
      split at h
      case isFalse => cases h
      rename_i hg
      obtain ⟨hl,hm,gb,gr,sq,hp,hfl⟩ := hg
      obtain ⟨fd',t4,t5,e,hfd',hw⟩ := ex_loop (a := a) hy fuel N _ _ g (.val (.int (r.fdiv y))) (.val (.int ((rt.length - bs.length : Nat) : Int))) h (by lia) (by simpa using hfd)
      refine ⟨fd',t4,t5,e,hfd',?_⟩
      have hrq : y * r.fdiv y = r := by have := Int.mul_fdiv_add_fmod r y; omega
      have hd : decide ((((r :: rt).reverse.length : Nat) : Int) ≥ (((y :: bs).reverse.length : Nat) : Int)) = true := decide_eq_true (by simp only [List.length_reverse,List.length_cons]; lia)
      have i1 : idxV (pvR (r :: rt)) (.int (-1)) = some (.int r) := by rw [pvR,List.reverse_cons]; exact idxL_int_m1 rt.reverse r
      have i2 : idxV (pvR (y :: bs)) (.int (-1)) = some (.int y) := by rw [pvR,List.reverse_cons]; exact idxL_int_m1 bs.reverse y
      have hst : ((((r :: rt).reverse.length : Nat) : Int) - (((y :: bs).reverse.length : Nat) : Int)) = ((rt.length - bs.length : Nat) : Int) := by simp only [List.length_reverse,List.length_cons]; lia
      have bl := (gdB_gd gb).len
      have rl := (gdB_gd gr).len
      simp only [List.length_cons] at bl rl
      have e1 := e_zscale (y :: bs).reverse (r.fdiv y) ((gdB_gd gb).rev.of_le (by simp; lia)) (smD_sm sq) (by decide) (by decide)
      have sl := scaleP_length (y :: bs).reverse (r.fdiv y)
      rw [List.length_reverse,List.length_cons] at sl
      have e2 := e_zraise (scaleP (y :: bs).reverse (r.fdiv y)) (rt.length - bs.length) (by lia) (by lia)
      have rsl := raiseP_length (scaleP (y :: bs).reverse (r.fdiv y)) (rt.length - bs.length)
      have e3 := e_zsub (r :: rt).reverse (raiseP (scaleP (y :: bs).reverse (r.fdiv y)) (rt.length - bs.length)) (by simp; lia) (by lia)
      have e4 := exR_eq (y := y) (q := r.fdiv y) (bs := bs) (rt := rt) hy hl
      rw [hrq,← List.reverse_cons,← List.reverse_cons] at e4
      rw [e4] at e3
      have hset : setIdx (fd.map .int) ((rt.length - bs.length : Nat) : Int) (.int (r.fdiv y)) = some ((fd.set (rt.length - bs.length) (r.fdiv y)).map .int) := by
        unfold setIdx
        rw [if_pos ⟨by lia,by rw [Int.toNat_natCast,List.length_map]; exact hp⟩,Int.toNat_natCast,List.map_set]
      have hlen : (fd.map PV.int).length ≤ lenMax := by rw [lenMax_eq,List.length_map]; lia
      rw [whileN]
      simp only [run,sSeq,sRet,sAsg,sTup,sUnp,sIf,sNop,sOwn,sFrz,sDrop,sM0,sM1,sM2,evs,bin,una,vr,ci,cst,ifx,tcmp,tand,tor,tnot,tval,vtst,lst,tpl,idx_app,call,List.map_cons,List.map_nil,List.length_cons,List.length_nil,List.cons_append,List.nil_append,List.getElem?_cons_zero,List.getElem?_cons_succ,List.set_cons_zero,List.set_cons_succ,List.replicate,List.replicate_zero,List.replicate_succ,Nat.reduceAdd,Nat.reduceSub,if_true,decide_true,decide_false,lenV_pvI,geV,hd,i1,i2,negV,modV,fdivV,hy,if_false,hm,neV_int,beq_self_eq_true,Bool.not_true,subV,hst,sSet,hset,hlen,if_true,e1,e2,e3]
      exact hw
noncomputable def exH (f : List Int) (y : Int) (bs : List Int) : Option (List Int) := exGo y bs (f.length + 3) f (List.replicate (f.length - bs.length) 0)
theorem e_zexact {f g bs : List Int} {y : Int} (hy : y ≠ 0) (hl : bs.length ≤ f.length) (hfl : f.length ≤ 100) (h : exH f y bs = some g) : d_zexact [pvR f,pvR (y :: bs)] = some (pvI g) := by
  obtain ⟨fd',t4,t5,e,hfd',hw⟩ := ex_loop (a := .val (pvR f)) hy _ (f.length + 3) f _ g .unset .unset h (Nat.le_refl _) (by simp; lia)
  have hm : (if (f.reverse.length : Int) - ((y :: bs).reverse.length : Int) + 1 > 0 then (f.reverse.length : Int) - ((y :: bs).reverse.length : Int) + 1 else 0) = ((f.length - bs.length : Nat) : Int) := by simp; split <;> lia
  have hmul : mulV (.list [.int 0]) (.int ((f.length - bs.length : Nat) : Int)) = some (.list ((List.replicate (f.length - bs.length) (0 : Int)).map .int)) := by
    simp only [mulV,List.map_replicate,Int.natAbs_natCast,Int.toNat_natCast]
    rw [if_pos (by rw [lenMax_eq]; lia)]
  have hf : fuelL 2 [.val (pvR f),.val (pvR (y :: bs)),.val (pvR f),.own ((List.replicate (f.length - bs.length) (0 : Int)).map .int),.unset,.unset] = f.length + 3 := by
    simp [fuelL,pvI]
  have hc : d_check_bottom [pvR (y :: bs)] = some .none := by
    obtain ⟨x,t,hx⟩ : ∃ x t,(y :: bs).reverse = x :: t := by
      cases hr : (y :: bs).reverse with
      | nil => simp at hr
      | cons x t => exact ⟨x,t,rfl⟩
    rw [pvR,hx]; exact e_check x t
  have hlen : (fd'.map PV.int).length ≤ lenMax := by rw [lenMax_eq,List.length_map]; lia
  have e5 : d_ztrim [.list (fd'.map .int)] = some (pvI g) := by rw [e]; exact e_ztrim fd' (by rw [lenMax_eq]; lia)
  show run 6 b_zexact [pvR f,pvR (y :: bs)] = _
  simp only [run,sSeq,sRet,sAsg,sTup,sUnp,sIf,sNop,sOwn,sFrz,sDrop,sM0,sM1,sM2,evs,bin,una,vr,ci,cst,ifx,tcmp,tand,tor,tnot,tval,vtst,lst,tpl,idx_app,call,List.map_cons,List.map_nil,List.length_cons,List.length_nil,List.cons_append,List.nil_append,List.getElem?_cons_zero,List.getElem?_cons_succ,List.set_cons_zero,List.set_cons_succ,List.replicate,List.replicate_zero,List.replicate_succ,Nat.reduceAdd,Nat.reduceSub,if_true,decide_true,decide_false,b_zexact,hc,listV_pvI,lenV_pvI,subV,addV,max2V,hm,hmul,sWhile,hf]
  rw [hw]
  simp only [run,sSeq,sRet,sAsg,sTup,sUnp,sIf,sNop,sOwn,sFrz,sDrop,sM0,sM1,sM2,evs,bin,una,vr,ci,cst,ifx,tcmp,tand,tor,tnot,tval,vtst,lst,tpl,idx_app,call,List.map_cons,List.map_nil,List.length_cons,List.length_nil,List.cons_append,List.nil_append,List.getElem?_cons_zero,List.getElem?_cons_succ,List.set_cons_zero,List.set_cons_succ,List.replicate,List.replicate_zero,List.replicate_succ,Nat.reduceAdd,Nat.reduceSub,if_true,decide_true,decide_false,hlen,if_true,lenV_pvI,List.reverse_nil,eqV_int,e5]
  simp [e5]
noncomputable def simpH (f : List Int) : Option (List Int) := match derH f with
  | [] => none
  | d :: ds => if d ≠ 0 then (match zgcdH f (d :: ds) with
    | none => none
    | some c => match c with
      | y :: z :: bs => if y ≠ 0 ∧ bs.length + 1 ≤ f.length then (match exH f y (z :: bs) with
          | none => none
          | some g => some g.reverse) else none
      | _ => some f) else none
theorem derH_length (f : List Int) : (derH f).length = f.length - 1 := by unfold derH; simp [deriveP,mapE_length]
theorem e_zderiveH {f : List Int} (hf : Gd 100 4000 f) : d_zderive [pvR f] = some (pvR (derH f)) := by
  have hl := hf.len
  have e1 := e_zderive f.reverse (hf.rev.of_le (by simp; lia)) (by decide)
  rw [e1]; unfold derH pvR; rw [List.reverse_reverse]
theorem e_simple_part {a : Int} {r g : List Int} (ha : a ≠ 0) (hf : Gd 99 4000 (a :: r)) (h : simpH (a :: r) = some g) : d_simple_part [pvR (a :: r)] = some (pvR g) := by
  have hl := hf.len
  have dl := derH_length (a :: r)
  have e1 := e_zderiveH (hf.mono (show 99 ≤ 100 by decide) (Nat.le_refl _))
  simp only [List.length_cons] at hl dl
  unfold simpH at h
  split at h
  · cases h
  rename_i d ds hd
  rw [hd] at e1 dl
  simp only [List.length_cons] at dl
  split at h
  case isFalse => cases h
  rename_i hd0
  split at h
  · cases h
  rename_i c hc
  have e2 := e_zgcd (by lia) (by lia) ha hd0 hc
  show run 2 b_simple_part [pvR (a :: r)] = _
  split at h
  · rename_i y z bs
    split at h
    case isFalse => cases h
    rename_i hg
    split at h
    · cases h
    rename_i g' hg'
    cases h
    have e3 := e_zexact hg.1 (by simp only [List.length_cons] at hg ⊢; lia) (by simp only [List.length_cons]; lia) hg'
    have hgt : decide ((((y :: z :: bs).reverse.length : Nat) : Int) - 1 > 0) = true := decide_eq_true (by simp; lia)
    simp only [run,sSeq,sRet,sAsg,sTup,sUnp,sIf,sNop,sOwn,sFrz,sDrop,sM0,sM1,sM2,evs,bin,una,vr,ci,cst,ifx,tcmp,tand,tor,tnot,tval,vtst,lst,tpl,idx_app,call,List.map_cons,List.map_nil,List.length_cons,List.length_nil,List.cons_append,List.nil_append,List.getElem?_cons_zero,List.getElem?_cons_succ,List.set_cons_zero,List.set_cons_succ,List.replicate,List.replicate_zero,List.replicate_succ,Nat.reduceAdd,Nat.reduceSub,if_true,decide_true,decide_false,b_simple_part,e1,e2,e_zdegree,gtV,hgt,e3]
    simp [pvR]
  · rename_i hne
    cases h
    have hgt : decide (((c.reverse.length : Nat) : Int) - 1 > 0) = false := decide_eq_false (by
      match c,hne with
      | [],_ => simp
      | [_],_ => simp
      | y :: z :: bs,hne => exact (hne y z bs rfl).elim)
    simp only [run,sSeq,sRet,sAsg,sTup,sUnp,sIf,sNop,sOwn,sFrz,sDrop,sM0,sM1,sM2,evs,bin,una,vr,ci,cst,ifx,tcmp,tand,tor,tnot,tval,vtst,lst,tpl,idx_app,call,List.map_cons,List.map_nil,List.length_cons,List.length_nil,List.cons_append,List.nil_append,List.getElem?_cons_zero,List.getElem?_cons_succ,List.set_cons_zero,List.set_cons_succ,List.replicate,List.replicate_zero,List.replicate_succ,Nat.reduceAdd,Nat.reduceSub,if_true,decide_true,decide_false,b_simple_part,e1,e2,e_zdegree,gtV,hgt]
theorem rowH_gd : ∀ (n : Nat) (a b : List Int) (r : List (List Int)),rowH n a b = some r → gdB a = true → r.length ≤ n ∧ ∀ l ∈ r,gdB l = true
  | 0,_,_,_,h,_ => by unfold rowH at h; cases h
  | n + 1,a,b,r,h,ga => by
    unfold rowH at h
    split at h
    · cases h; exact ⟨by simp,fun l hl => by rw [List.mem_singleton] at hl; rw [hl]; exact ga⟩
    · split at h
      case isFalse => cases h
      rename_i hg
      split at h
      · cases h
      · rename_i t ht
        cases h
        have ih := rowH_gd n _ _ t ht hg.2.2
        refine ⟨by simp; exact ih.1,fun l hl => ?_⟩
        cases hl with
        | head => exact ga
        | tail _ q => exact ih.2 l q
noncomputable def stH (g : List Int) : Option Int := if gdB g = true then (match rowH ((derH g).length + 3) g (derH g) with
  | none => none
  | some row => some ((chgH 0 row : Int) - chgH 1 row)) else none
theorem e_count_roots {a : Int} {r g : List Int} {n : Int} (ha : a ≠ 0) (hf : Gd 99 4000 (a :: r)) (h : simpH (a :: r) = some g) (hg : stH g = some n) : d_count_roots [pvR (a :: r),.tup [.int 0,.int 1],.tup [.int 1,.int 1]] = some (.int n) := by
  have e1 := e_simple_part ha hf h
  unfold stH at hg
  split at hg
  case isFalse => cases hg
  rename_i gg
  split at hg
  · cases hg
  rename_i row hrow
  cases hg
  have e2 := e_sturm_row (gdB_gd gg) hrow
  have hh := rowH_gd _ _ _ _ hrow gg
  have dl := derH_length g
  have gl := (gdB_gd gg).len
  have e3 := e_count_by_row (row := row) (by lia) fun l hl => gdB_gd (hh.2 l hl)
  show run 3 b_count_roots [pvR (a :: r),.tup [.int 0,.int 1],.tup [.int 1,.int 1]] = _
  simp only [run,sSeq,sRet,sAsg,sTup,sUnp,sIf,sNop,sOwn,sFrz,sDrop,sM0,sM1,sM2,evs,bin,una,vr,ci,cst,ifx,tcmp,tand,tor,tnot,tval,vtst,lst,tpl,idx_app,call,List.map_cons,List.map_nil,List.length_cons,List.length_nil,List.cons_append,List.nil_append,List.getElem?_cons_zero,List.getElem?_cons_succ,List.set_cons_zero,List.set_cons_succ,List.replicate,List.replicate_zero,List.replicate_succ,Nat.reduceAdd,Nat.reduceSub,if_true,decide_true,decide_false,b_count_roots,e1,e2,e3]
end Mine
end
section
open PySem PySem.W PyProof.Rows
set_option exponentiation.threshold 10000
set_option maxHeartbeats 4000000
namespace Mine
noncomputable def Bd (x : Int) : Prop := -10000000 ≤ x ∧ x ≤ 10000000
theorem smB_of {x : Int} (h : -1000000000000000000000000 ≤ x ∧ x ≤ 1000000000000000000000000) : smB x = true := by
  have : Sm 80 x := by unfold Sm; lia
  exact this.smB (by decide)
theorem mulV_lin {x y : Int} (h : -1000000000000000000000000 ≤ x ∧ x ≤ 1000000000000000000000000) (h' : -1000000000000000000000000 ≤ y ∧ y ≤ 1000000000000000000000000) : mulV (.int x) (.int y) = some (.int (x * y)) := by
  unfold mulV; dsimp only; rw [smB_of h,smB_of h']; rfl
theorem addI_int (a b : Int) : addI (.int a) (.int b) = some (.int (a + b)) := rfl
theorem addV_int (a b : Int) : addV (.int a) (.int b) = some (.int (a + b)) := rfl
theorem subV_int (a b : Int) : subV (.int a) (.int b) = some (.int (a - b)) := rfl
theorem revV_pvI (l : List Int) : revV (pvI l) = some (pvI l.reverse) := by simp [revV,pvI]
theorem inLong_of {x : Int} (h : -1000000000000000000 ≤ x ∧ x ≤ 1000000000000000000) : inLong x = true := by
  unfold inLong
  rw [decide_eq_true (by lia),decide_eq_true (by lia)]
  rfl
theorem bestMin_gt : ∀ (r : List Int) (a : Int),bestMin a r > 0 → a > 0 ∧ ∀ x ∈ r,x > 0
  | [],a,h => ⟨h,fun _ q => nomatch q⟩
  | b :: r,a,h => by
    unfold bestMin at h
    have ih := bestMin_gt r _ h
    split at ih
    · exact ⟨by lia,fun x q => by cases q with | head => exact ih.1 | tail _ q => exact ih.2 x q⟩
    · exact ⟨ih.1,fun x q => by cases q with | head => lia | tail _ q => exact ih.2 x q⟩
theorem bestMax_lt : ∀ (r : List Int) (a : Int),bestMax a r < 0 → a < 0 ∧ ∀ x ∈ r,x < 0
  | [],a,h => ⟨h,fun _ q => nomatch q⟩
  | b :: r,a,h => by
    unfold bestMax at h
    have ih := bestMax_lt r _ h
    split at ih
    · exact ⟨by lia,fun x q => by cases q with | head => exact ih.1 | tail _ q => exact ih.2 x q⟩
    · exact ⟨ih.1,fun x q => by cases q with | head => lia | tail _ q => exact ih.2 x q⟩
theorem pow_1_0 : powV (.int 1) (.int 0) = some (.int 1) := rfl
theorem pow_1_1 : powV (.int 1) (.int 1) = some (.int 1) := rfl
theorem pow_1_2 : powV (.int 1) (.int 2) = some (.int 1) := rfl
theorem pow_1_3 : powV (.int 1) (.int 3) = some (.int 1) := rfl
theorem pow_1_4 : powV (.int 1) (.int 4) = some (.int 1) := rfl
theorem pow_2_0 : powV (.int 2) (.int 0) = some (.int 1) := rfl
theorem pow_2_1 : powV (.int 2) (.int 1) = some (.int 2) := rfl
theorem pow_2_2 : powV (.int 2) (.int 2) = some (.int 4) := rfl
theorem pow_2_3 : powV (.int 2) (.int 3) = some (.int 8) := rfl
theorem pow_2_4 : powV (.int 2) (.int 4) = some (.int 16) := rfl
theorem pow_3_0 : powV (.int 3) (.int 0) = some (.int 1) := rfl
theorem pow_3_1 : powV (.int 3) (.int 1) = some (.int 3) := rfl
theorem pow_3_2 : powV (.int 3) (.int 2) = some (.int 9) := rfl
theorem pow_3_3 : powV (.int 3) (.int 3) = some (.int 27) := rfl
theorem pow_3_4 : powV (.int 3) (.int 4) = some (.int 81) := rfl
theorem pow_4_0 : powV (.int 4) (.int 0) = some (.int 1) := rfl
theorem pow_4_1 : powV (.int 4) (.int 1) = some (.int 4) := rfl
theorem pow_4_2 : powV (.int 4) (.int 2) = some (.int 16) := rfl
theorem pow_4_3 : powV (.int 4) (.int 3) = some (.int 64) := rfl
theorem pow_4_4 : powV (.int 4) (.int 4) = some (.int 256) := rfl
theorem rep_2 : mulV (.list [.int 0]) (.int 2) = some (.list [.int 0,.int 0]) := rfl
theorem rep_3 : mulV (.list [.int 0]) (.int 3) = some (.list [.int 0,.int 0,.int 0]) := rfl
theorem rep_4 : mulV (.list [.int 0]) (.int 4) = some (.list [.int 0,.int 0,.int 0,.int 0]) := rfl
theorem rep_5 : mulV (.list [.int 0]) (.int 5) = some (.list [.int 0,.int 0,.int 0,.int 0,.int 0]) := rfl
theorem ch_0 : d_law_choices [.int 0] = some (.list [.int 1]) := rfl
theorem ch_1 : d_law_choices [.int 1] = some (.list [.int 1,.int 1]) := rfl
theorem ch_2 : d_law_choices [.int 2] = some (.list [.int 1,.int 2,.int 1]) := rfl
theorem ch_3 : d_law_choices [.int 3] = some (.list [.int 1,.int 3,.int 3,.int 1]) := rfl
theorem ch_4 : d_law_choices [.int 4] = some (.list [.int 1,.int 4,.int 6,.int 4,.int 1]) := rfl
noncomputable def rowL : List Int → List Int
  | [a,b] => [a,a + b]
  | [a,b,c] => [a,2 * a + b,a + b + c]
  | [a,b,c,d] => [a,3 * a + b,3 * a + 2 * b + c,a + b + c + d]
  | [a,b,c,d,e] => [a,4 * a + b,6 * a + 3 * b + c,4 * a + 3 * b + 2 * c + d,a + b + c + d + e]
  | _ => []
theorem rowL_2 (a b : Int) : rowL [a,b] = [a,a + b] := rfl
theorem rowL_3 (a b c : Int) : rowL [a,b,c] = [a,2 * a + b,a + b + c] := rfl
theorem rowL_4 (a b c d : Int) : rowL [a,b,c,d] = [a,3 * a + b,3 * a + 2 * b + c,a + b + c + d] := rfl
theorem rowL_5 (a b c d e : Int) : rowL [a,b,c,d,e] = [a,4 * a + b,6 * a + 3 * b + c,4 * a + 3 * b + 2 * c + d,a + b + c + d + e] := rfl
noncomputable def shL : List Int → List Int
  | [a,b] => [a + b,b]
  | [a,b,c] => [a + b + c,b + 2 * c,c]
  | [a,b,c,d] => [a + b + c + d,b + 2 * c + 3 * d,c + 3 * d,d]
  | [a,b,c,d,e] => [a + b + c + d + e,b + 2 * c + 3 * d + 4 * e,c + 3 * d + 6 * e,d + 4 * e,e]
  | _ => []
theorem shL_2 (a b : Int) : shL [a,b] = [a + b,b] := rfl
theorem shL_3 (a b c : Int) : shL [a,b,c] = [a + b + c,b + 2 * c,c] := rfl
theorem shL_4 (a b c d : Int) : shL [a,b,c,d] = [a + b + c + d,b + 2 * c + 3 * d,c + 3 * d,d] := rfl
theorem shL_5 (a b c d e : Int) : shL [a,b,c,d,e] = [a + b + c + d + e,b + 2 * c + 3 * d + 4 * e,c + 3 * d + 6 * e,d + 4 * e,e] := rfl
noncomputable def leftL : List Int → List Int
  | [a,b] => [2 * a,b]
  | [a,b,c] => [4 * a,2 * b,c]
  | [a,b,c,d] => [8 * a,4 * b,2 * c,d]
  | [a,b,c,d,e] => [16 * a,8 * b,4 * c,2 * d,e]
  | _ => []
theorem leftL_2 (a b : Int) : leftL [a,b] = [2 * a,b] := rfl
theorem leftL_3 (a b c : Int) : leftL [a,b,c] = [4 * a,2 * b,c] := rfl
theorem leftL_4 (a b c d : Int) : leftL [a,b,c,d] = [8 * a,4 * b,2 * c,d] := rfl
theorem leftL_5 (a b c d e : Int) : leftL [a,b,c,d,e] = [16 * a,8 * b,4 * c,2 * d,e] := rfl
theorem d_zshift_eq (a b : PV) : d_zshift [a,b] = run 5 b_zshift [a,b] := rfl
theorem d_law_row_eq (a : PV) : d_law_row [a] = run 7 b_law_row [a] := rfl
theorem d_law_between_eq (a b : PV) : d_law_between [a,b] = run 7 b_law_between [a,b] := rfl
theorem left_2 {a b : Int} {r : List Slot} (ha : Bd a) (hb : Bd b) : comp (itEnum (vr 3)) take2 [5] ttrue (bin mulV (vr 1) (bin powV (ci 2) (bin subV (vr 2) (vr 0)))) (s0 :: s1 :: s2 :: .val (pvI [a,b]) :: s4 :: .val (.int 1) :: r) = some (pvI (leftL [a,b])) := by
  unfold Bd at *
  simp (disch := (first | decide | lia)) [comp,ttrue,frees,compGo,run,sSeq,sRet,sAsg,sTup,sUnp,sIf,sNop,sOwn,sFrz,sDrop,sM0,sM1,sM2,evs,bin,una,vr,ci,cst,ifx,tcmp,tand,tor,tnot,tval,vtst,lst,tpl,idx_app,call,List.map_cons,List.map_nil,List.length_cons,List.length_nil,List.cons_append,List.nil_append,List.getElem?_cons_zero,List.getElem?_cons_succ,List.set_cons_zero,List.set_cons_succ,List.replicate,List.replicate_zero,List.replicate_succ,Nat.reduceAdd,Nat.reduceSub,if_true,decide_true,decide_false,idxV,pvI,listV,lenV,subV_int,sFor,itUp,itDown,itEnum,okR,lenMax,upto,downto,enumFrom',take1,take2,forGo,bindT,sAugI,sSet,idxL,mulV_lin,idxO,addV_int,addI_int,setIdx,pow_1_0,pow_1_1,pow_1_2,pow_1_3,pow_1_4,pow_2_0,pow_2_1,pow_2_2,pow_2_3,pow_2_4,pow_3_0,pow_3_1,pow_3_2,pow_3_3,pow_3_4,pow_4_0,pow_4_1,pow_4_2,pow_4_3,pow_4_4,leftL_2,leftL_3,leftL_4,leftL_5]
  try lia
theorem left_3 {a b c : Int} {r : List Slot} (ha : Bd a) (hb : Bd b) (hc : Bd c) : comp (itEnum (vr 3)) take2 [5] ttrue (bin mulV (vr 1) (bin powV (ci 2) (bin subV (vr 2) (vr 0)))) (s0 :: s1 :: s2 :: .val (pvI [a,b,c]) :: s4 :: .val (.int 2) :: r) = some (pvI (leftL [a,b,c])) := by
  unfold Bd at *
  simp (disch := (first | decide | lia)) [comp,ttrue,frees,compGo,run,sSeq,sRet,sAsg,sTup,sUnp,sIf,sNop,sOwn,sFrz,sDrop,sM0,sM1,sM2,evs,bin,una,vr,ci,cst,ifx,tcmp,tand,tor,tnot,tval,vtst,lst,tpl,idx_app,call,List.map_cons,List.map_nil,List.length_cons,List.length_nil,List.cons_append,List.nil_append,List.getElem?_cons_zero,List.getElem?_cons_succ,List.set_cons_zero,List.set_cons_succ,List.replicate,List.replicate_zero,List.replicate_succ,Nat.reduceAdd,Nat.reduceSub,if_true,decide_true,decide_false,idxV,pvI,listV,lenV,subV_int,sFor,itUp,itDown,itEnum,okR,lenMax,upto,downto,enumFrom',take1,take2,forGo,bindT,sAugI,sSet,idxL,mulV_lin,idxO,addV_int,addI_int,setIdx,pow_1_0,pow_1_1,pow_1_2,pow_1_3,pow_1_4,pow_2_0,pow_2_1,pow_2_2,pow_2_3,pow_2_4,pow_3_0,pow_3_1,pow_3_2,pow_3_3,pow_3_4,pow_4_0,pow_4_1,pow_4_2,pow_4_3,pow_4_4,leftL_2,leftL_3,leftL_4,leftL_5]
  try lia
theorem left_4 {a b c d : Int} {r : List Slot} (ha : Bd a) (hb : Bd b) (hc : Bd c) (hd : Bd d) : comp (itEnum (vr 3)) take2 [5] ttrue (bin mulV (vr 1) (bin powV (ci 2) (bin subV (vr 2) (vr 0)))) (s0 :: s1 :: s2 :: .val (pvI [a,b,c,d]) :: s4 :: .val (.int 3) :: r) = some (pvI (leftL [a,b,c,d])) := by
  unfold Bd at *
  simp (disch := (first | decide | lia)) [comp,ttrue,frees,compGo,run,sSeq,sRet,sAsg,sTup,sUnp,sIf,sNop,sOwn,sFrz,sDrop,sM0,sM1,sM2,evs,bin,una,vr,ci,cst,ifx,tcmp,tand,tor,tnot,tval,vtst,lst,tpl,idx_app,call,List.map_cons,List.map_nil,List.length_cons,List.length_nil,List.cons_append,List.nil_append,List.getElem?_cons_zero,List.getElem?_cons_succ,List.set_cons_zero,List.set_cons_succ,List.replicate,List.replicate_zero,List.replicate_succ,Nat.reduceAdd,Nat.reduceSub,if_true,decide_true,decide_false,idxV,pvI,listV,lenV,subV_int,sFor,itUp,itDown,itEnum,okR,lenMax,upto,downto,enumFrom',take1,take2,forGo,bindT,sAugI,sSet,idxL,mulV_lin,idxO,addV_int,addI_int,setIdx,pow_1_0,pow_1_1,pow_1_2,pow_1_3,pow_1_4,pow_2_0,pow_2_1,pow_2_2,pow_2_3,pow_2_4,pow_3_0,pow_3_1,pow_3_2,pow_3_3,pow_3_4,pow_4_0,pow_4_1,pow_4_2,pow_4_3,pow_4_4,leftL_2,leftL_3,leftL_4,leftL_5]
  try lia
theorem left_5 {a b c d e : Int} {r : List Slot} (ha : Bd a) (hb : Bd b) (hc : Bd c) (hd : Bd d) (he : Bd e) : comp (itEnum (vr 3)) take2 [5] ttrue (bin mulV (vr 1) (bin powV (ci 2) (bin subV (vr 2) (vr 0)))) (s0 :: s1 :: s2 :: .val (pvI [a,b,c,d,e]) :: s4 :: .val (.int 4) :: r) = some (pvI (leftL [a,b,c,d,e])) := by
  unfold Bd at *
  simp (disch := (first | decide | lia)) [comp,ttrue,frees,compGo,run,sSeq,sRet,sAsg,sTup,sUnp,sIf,sNop,sOwn,sFrz,sDrop,sM0,sM1,sM2,evs,bin,una,vr,ci,cst,ifx,tcmp,tand,tor,tnot,tval,vtst,lst,tpl,idx_app,call,List.map_cons,List.map_nil,List.length_cons,List.length_nil,List.cons_append,List.nil_append,List.getElem?_cons_zero,List.getElem?_cons_succ,List.set_cons_zero,List.set_cons_succ,List.replicate,List.replicate_zero,List.replicate_succ,Nat.reduceAdd,Nat.reduceSub,if_true,decide_true,decide_false,idxV,pvI,listV,lenV,subV_int,sFor,itUp,itDown,itEnum,okR,lenMax,upto,downto,enumFrom',take1,take2,forGo,bindT,sAugI,sSet,idxL,mulV_lin,idxO,addV_int,addI_int,setIdx,pow_1_0,pow_1_1,pow_1_2,pow_1_3,pow_1_4,pow_2_0,pow_2_1,pow_2_2,pow_2_3,pow_2_4,pow_3_0,pow_3_1,pow_3_2,pow_3_3,pow_3_4,pow_4_0,pow_4_1,pow_4_2,pow_4_3,pow_4_4,leftL_2,leftL_3,leftL_4,leftL_5]
  try lia
end Mine
end
section
open PySem PySem.W PyProof.Rows
set_option exponentiation.threshold 10000
namespace Mine
noncomputable def addAt (left : Int) : List Int → Nat → List Int → List Int
  | fd,_,[] => fd
  | fd,i,b :: bs => addAt left (fd.set i (fd.getD i 0 + left * b)) (i + 1) bs
theorem addAt_length (left : Int) : ∀ (bs fd : List Int) (i : Nat),(addAt left fd i bs).length = fd.length
  | [],_,_ => rfl
  | b :: bs,fd,i => by rw [addAt,addAt_length left bs]; simp
theorem addAt_zero : ∀ (bs fd : List Int) (i : Nat),addAt 0 fd i bs = fd
  | [],_,_ => rfl
  | b :: bs,fd,i => by
    rw [addAt,addAt_zero bs]
    rw [Int.zero_mul,Int.add_zero]
    apply List.ext_getElem?
    intro j
    rw [List.getElem?_set]
    by_cases h : i = j
    · subst h
      by_cases h2 : i < fd.length
      · simp [h2]
      · simp [h2]
    · rw [if_neg h]
theorem Gd.set {k n i : Nat} {l : List Int} {x : Int} (h : Gd k n l) (hx : Sm n x) : Gd k n (l.set i x) :=
  ⟨by simpa using h.len,fun y hy => by
    rcases List.mem_or_eq_of_mem_set hy with q | q
    · exact h.sm y q
    · rw [q]; exact hx⟩
theorem Gd.get {k n i : Nat} {l : List Int} (h : Gd k n l) : Sm n (l.getD i 0) := by
  rw [List.getD_eq_getElem?_getD]
  cases q : l[i]? with
  | none => exact Sm.zero
  | some x => exact h.sm x (List.mem_of_getElem? q)
theorem addAt_gd {left : Int} {nl : Nat} (hl : Sm nl left) : ∀ (bs fd : List Int) (i k m : Nat),(∀ b ∈ bs,Sm nl b) → Gd k m fd → nl + nl ≤ m → Gd k (m + bs.length) (addAt left fd i bs)
  | [],fd,i,k,m,_,h,_ => h
  | b :: bs,fd,i,k,m,hb,h,hm => by
    rw [addAt,List.length_cons]
    have g : Gd k (m + 1) (fd.set i (fd.getD i 0 + left * b)) := (h.mono (Nat.le_refl _) (Nat.le_succ _)).set (h.get.add ((hl.mul (hb b (.head _))).mono hm))
    exact (addAt_gd hl bs _ _ _ _ (fun x q => hb x (.tail _ q)) g (by lia)).mono (Nat.le_refl _) (by lia)
noncomputable def mulGo (b : List Int) : List Int → Nat → List Int → List Int
  | fd,_,[] => fd
  | fd,i,a :: as => mulGo b (addAt a fd i b) (i + 1) as
noncomputable def mulL (a b : List Int) : List Int := mulGo b (List.replicate (a.length + b.length - 1) 0) 0 a
theorem mulGo_length (b : List Int) : ∀ (as fd : List Int) (i : Nat),(mulGo b fd i as).length = fd.length
  | [],_,_ => rfl
  | a :: as,fd,i => by rw [mulGo,mulGo_length b as,addAt_length]
theorem mulL_length (a b : List Int) : (mulL a b).length = a.length + b.length - 1 := by unfold mulL; rw [mulGo_length]; simp
theorem mulGo_gd {nl : Nat} {b : List Int} (hb : ∀ x ∈ b,Sm nl x) : ∀ (as fd : List Int) (i k m : Nat),(∀ x ∈ as,Sm nl x) → Gd k m fd → nl + nl ≤ m → Gd k (m + as.length * b.length) (mulGo b fd i as)
  | [],fd,i,k,m,_,h,_ => by simpa [mulGo] using h
  | a :: as,fd,i,k,m,ha,h,hm => by
    rw [mulGo,List.length_cons,Nat.succ_mul]
    have g := addAt_gd (ha a (.head _)) b fd i k m hb h hm
    exact (mulGo_gd hb as _ _ _ _ (fun x q => ha x (.tail _ q)) g (by lia)).mono (Nat.le_refl _) (by lia)
theorem mulL_gd {ka kb n : Nat} {a b : List Int} (ha : Gd ka n a) (hb : Gd kb n b) : Gd (ka + kb) (n + n + a.length * b.length) (mulL a b) := by
  have h1 := ha.len
  have h2 := hb.len
  refine mulGo_gd hb.sm a _ _ _ _ ha.sm ⟨by simp; lia,fun x hx => ?_⟩ (Nat.le_refl _)
  rw [List.mem_replicate] at hx; rw [hx.2]; exact Sm.zero
theorem mul_inner {s0 s1 : Slot} {left : Int} {n : Nat} (hn : n ≤ 4000) (hl : Sm n left) : ∀ (bs fd : List Int) (o k : Nat) (s5 s6 : Slot),(∀ b ∈ bs,Sm n b) → o + k + bs.length ≤ fd.length → fd.length ≤ 1000 →
    ∃ t5 t6,forGo take2 [5,6] (sAugI 2 addI (bin addV (vr 3) (vr 5)) (bin mulV (vr 4) (vr 6))) (enumFrom' (k : Int) (bs.map .int)) [s0,s1,.own (fd.map .int),.val (.int o),.val (.int left),s5,s6] = some (.next [s0,s1,.own ((addAt left fd (o + k) bs).map .int),.val (.int o),.val (.int left),t5,t6])
  | [],fd,o,k,s5,s6,_,_,_ => ⟨s5,s6,rfl⟩
  | b :: bs,fd,o,k,s5,s6,hb,hk,hf => by
    simp only [List.length_cons] at hk
    obtain ⟨t5,t6,h⟩ := mul_inner (s0 := s0) (s1 := s1) hn hl bs (fd.set (o + k) (fd.getD (o + k) 0 + left * b)) o (k + 1) (.val (.int k)) (.val (.int b)) (fun x q => hb x (.tail _ q)) (by simp; lia) (by simpa using hf)
    refine ⟨t5,t6,?_⟩
    have e1 : idxL (fd.map .int) ((o : Int) + (k : Int)) = some (.int (fd.getD (o + k) 0)) := by
      have := getD_idx fd (o + k) (by lia)
      rw [show ((o : Int) + (k : Int)) = ((o + k : Nat) : Int) by lia]
      exact this
    have e2 := mulV_ok hl (hb b (.head _)) (by lia) (by lia)
    have e3 : setIdx (fd.map .int) ((o : Int) + (k : Int)) (.int (fd.getD (o + k) 0 + left * b)) = some ((fd.set (o + k) (fd.getD (o + k) 0 + left * b)).map .int) := by
      unfold setIdx
      rw [if_pos ⟨by lia,by rw [List.length_map]; lia⟩,List.map_set]
      congr 2
    have e4 : (fd.map PV.int).length ≤ lenMax := by rw [List.length_map,lenMax_eq]; lia
    simp only [List.map_cons,enumFrom',forGo,take2,bindT,run,sSeq,sRet,sAsg,sTup,sUnp,sIf,sNop,sOwn,sFrz,sDrop,sM0,sM1,sM2,evs,bin,una,vr,ci,cst,ifx,tcmp,tand,tor,tnot,tval,vtst,lst,tpl,idx_app,call,List.map_cons,List.map_nil,List.length_cons,List.length_nil,List.cons_append,List.nil_append,List.getElem?_cons_zero,List.getElem?_cons_succ,List.set_cons_zero,List.set_cons_succ,List.replicate,List.replicate_zero,List.replicate_succ,Nat.reduceAdd,Nat.reduceSub,if_true,decide_true,decide_false,sAugI,addV_int,e1,e2,addI_int,e3,e4]
    rw [addAt]
    have e5 : ((k : Int) + 1) = ((k + 1 : Nat) : Int) := by lia
    rw [e5]
    rw [show o + k + 1 = o + (k + 1) by lia]
    exact h
theorem take2_tup (a b : PV) : take2 (.tup [a,b]) = some [a,b] := rfl
theorem sFor_of {it : IDen} {tk : PV → Option (List PV)} {is : List Nat} {b : SDen} {σ : Sl} {xs : List PV} (h : it σ = some xs) (h2 : xs.all (fun x => (tk x).isSome) = true) : sFor it tk is b σ = forGo tk is b xs σ := by
  unfold sFor; rw [h]; dsimp only; rw [if_pos h2]
theorem mul_outer {s0 : Slot} {b : List Int} {n : Nat} (hn : n ≤ 4000) (hb : ∀ x ∈ b,Sm n x) : ∀ (as fd : List Int) (k : Nat) (s3 s4 s5 s6 : Slot),(∀ x ∈ as,Sm n x) → k + as.length + b.length ≤ fd.length + 1 → fd.length ≤ 1000 →
    ∃ t3 t4 t5 t6,forGo take2 [3,4] (sIf (tcmp neV (vr 4) (ci 0)) (sFor (itEnum (vr 1)) take2 [5,6] (sAugI 2 addI (bin addV (vr 3) (vr 5)) (bin mulV (vr 4) (vr 6)))) sNop) (enumFrom' (k : Int) (as.map .int)) [s0,.val (pvI b),.own (fd.map .int),s3,s4,s5,s6] = some (.next [s0,.val (pvI b),.own ((mulGo b fd k as).map .int),t3,t4,t5,t6])
  | [],fd,k,s3,s4,s5,s6,_,_,_ => ⟨s3,s4,s5,s6,rfl⟩
  | a :: as,fd,k,s3,s4,s5,s6,ha,hk,hf => by
    simp only [List.length_cons] at hk
    have hitE : ∀ σ : Sl,σ[1]? = some (.val (pvI b)) → itEnum (vr 1) σ = some (enumFrom' 0 (b.map .int)) := fun σ h => by simp [itEnum,vr,h,pvI]
    obtain ⟨u5,u6,hin⟩ := mul_inner (s0 := s0) (s1 := .val (pvI b)) hn (ha a (.head _)) b fd k 0 s5 s6 hb (by lia) hf
    have e5 : ((k : Int) + 1) = ((k + 1 : Nat) : Int) := by lia
    by_cases z : a = 0
    · subst z
      obtain ⟨t3,t4,t5,t6,h⟩ := mul_outer (s0 := s0) hn hb as (addAt 0 fd k b) (k + 1) (.val (.int k)) (.val (.int 0)) s5 s6 (fun x q => ha x (.tail _ q)) (by rw [addAt_length]; lia) (by rw [addAt_length]; lia)
      refine ⟨t3,t4,t5,t6,?_⟩
      rw [mulGo]
      rw [addAt_zero] at h ⊢
      simp only [List.map_cons,enumFrom',forGo,take2,bindT,run,sSeq,sRet,sAsg,sTup,sUnp,sIf,sNop,sOwn,sFrz,sDrop,sM0,sM1,sM2,evs,bin,una,vr,ci,cst,ifx,tcmp,tand,tor,tnot,tval,vtst,lst,tpl,idx_app,call,List.map_cons,List.map_nil,List.length_cons,List.length_nil,List.cons_append,List.nil_append,List.getElem?_cons_zero,List.getElem?_cons_succ,List.set_cons_zero,List.set_cons_succ,List.replicate,List.replicate_zero,List.replicate_succ,Nat.reduceAdd,Nat.reduceSub,if_true,decide_true,decide_false,neV_int,beq_self_eq_true,Bool.not_true,e5]
      exact h
    · have zb : (a == 0) = false := by simpa using z
      obtain ⟨t3,t4,t5,t6,h⟩ := mul_outer (s0 := s0) hn hb as (addAt a fd k b) (k + 1) (.val (.int k)) (.val (.int a)) u5 u6 (fun x q => ha x (.tail _ q)) (by rw [addAt_length]; lia) (by rw [addAt_length]; lia)
      refine ⟨t3,t4,t5,t6,?_⟩
      rw [mulGo]
      have hit := hitE [s0,.val (pvI b),.own (fd.map .int),.val (.int k),.val (.int a),s5,s6] rfl
      rw [show ((0 : Nat) : Int) = 0 from rfl] at hin
      have hsf := (sFor_of (is := [5,6]) (b := sAugI 2 addI (bin addV (vr 3) (vr 5)) (bin mulV (vr 4) (vr 6))) hit (enum_all _ _)).trans hin
      simp only [List.map_cons,enumFrom',forGo,take2_tup,bindT,run,sSeq,sRet,sAsg,sTup,sUnp,sIf,sNop,sOwn,sFrz,sDrop,sM0,sM1,sM2,evs,bin,una,vr,ci,cst,ifx,tcmp,tand,tor,tnot,tval,vtst,lst,tpl,idx_app,call,List.map_cons,List.map_nil,List.length_cons,List.length_nil,List.cons_append,List.nil_append,List.getElem?_cons_zero,List.getElem?_cons_succ,List.set_cons_zero,List.set_cons_succ,List.replicate,List.replicate_zero,List.replicate_succ,Nat.reduceAdd,Nat.reduceSub,if_true,decide_true,decide_false,neV_int,zb,Bool.not_false,e5,hsf]
      exact h
theorem e_zmul {n : Nat} {a b : List Int} (ha : Gd 100 n a) (hb : Gd 100 n b) (hn : n ≤ 4000) (ha0 : a ≠ []) (hb0 : b ≠ []) : d_zmul [pvI a,pvI b] = some (pvI (mulL a b)) := by
  have la := List.length_pos_iff.mpr ha0
  have lb := List.length_pos_iff.mpr hb0
  have al := ha.len
  have bl := hb.len
  obtain ⟨t3,t4,t5,t6,h⟩ := mul_outer (s0 := .val (pvI a)) hn hb.sm a (List.replicate (a.length + b.length - 1) 0) 0 .unset .unset .unset .unset ha.sm (by simp; lia) (by simp; lia)
  have z1 : (((a.length : Nat) : Int) == 0) = false := by simp; lia
  have z2 : (((b.length : Nat) : Int) == 0) = false := by simp; lia
  have hm : mulV (.list [.int 0]) (.int ((a.length : Int) + (b.length : Int) - 1)) = some (.list ((List.replicate (a.length + b.length - 1) (0 : Int)).map .int)) := by
    have e : ((a.length : Int) + (b.length : Int) - 1) = ((a.length + b.length - 1 : Nat) : Int) := by lia
    rw [e]
    simp only [mulV,List.map_replicate,Int.natAbs_natCast,Int.toNat_natCast]
    rw [if_pos (by rw [lenMax_eq]; lia)]
  have hit : ∀ r,itEnum (vr 0) (.val (pvI a) :: r) = some (enumFrom' 0 (a.map .int)) := fun r => rfl
  have hlen : ((mulGo b (List.replicate (a.length + b.length - 1) 0) 0 a).map PV.int).length ≤ lenMax := by rw [List.length_map,mulGo_length,List.length_replicate,lenMax_eq]; lia
  show run 7 b_zmul [pvI a,pvI b] = _
  rw [show ((0 : Nat) : Int) = 0 from rfl] at h
  have hsf := (sFor_of (is := [3,4]) (b := sIf (tcmp neV (vr 4) (ci 0)) (sFor (itEnum (vr 1)) take2 [5,6] (sAugI 2 addI (bin addV (vr 3) (vr 5)) (bin mulV (vr 4) (vr 6)))) sNop) (hit [.val (pvI b),.own ((List.replicate (a.length + b.length - 1) (0 : Int)).map .int),.unset,.unset,.unset,.unset]) (enum_all _ _)).trans h
  unfold b_zmul
  generalize hbody : sFor (itEnum (vr 0)) take2 [3,4] (sIf (tcmp neV (vr 4) (ci 0)) (sFor (itEnum (vr 1)) take2 [5,6] (sAugI 2 addI (bin addV (vr 3) (vr 5)) (bin mulV (vr 4) (vr 6)))) sNop) = B at hsf
  simp only [run,sSeq,sRet,sAsg,sTup,sUnp,sIf,sNop,sOwn,sFrz,sDrop,sM0,sM1,sM2,evs,bin,una,vr,ci,cst,ifx,tcmp,tand,tor,tnot,tval,vtst,lst,tpl,idx_app,call,List.map_cons,List.map_nil,List.length_cons,List.length_nil,List.cons_append,List.nil_append,List.getElem?_cons_zero,List.getElem?_cons_succ,List.set_cons_zero,List.set_cons_succ,List.replicate,List.replicate_zero,List.replicate_succ,Nat.reduceAdd,Nat.reduceSub,if_true,decide_true,decide_false,lenV_pvI,eqV_int,z1,z2,addV_int,subV_int,hm,hsf]
  simp only [run,sSeq,sRet,sAsg,sTup,sUnp,sIf,sNop,sOwn,sFrz,sDrop,sM0,sM1,sM2,evs,bin,una,vr,ci,cst,ifx,tcmp,tand,tor,tnot,tval,vtst,lst,tpl,idx_app,call,List.map_cons,List.map_nil,List.length_cons,List.length_nil,List.cons_append,List.nil_append,List.getElem?_cons_zero,List.getElem?_cons_succ,List.set_cons_zero,List.set_cons_succ,List.replicate,List.replicate_zero,List.replicate_succ,Nat.reduceAdd,Nat.reduceSub,if_true,decide_true,decide_false,hlen,if_true]
  rfl
noncomputable def chL (row : List Int) : Nat := adj (fun a b => decide (a * b < 0)) (row.filter fun x => !(x == 0))
theorem e_law_changes {row : List Int} (hr : Gd 100 4000 row) : d_law_changes [pvI row] = some (.int (chL row)) := by
  have rl := hr.len
  have c2 : comp (itv (vr 0)) take1 [] (tcmp neV (vr 0) (ci 0)) (vr 0) [.val (pvI row),.unset] = some (pvI (row.filter fun x => !(x == 0))) :=
    comp_eq (xs := row.map .int) rfl (by simp [lenMax_eq]; lia) (take1_all _) (F := []) rfl (by
      have := compGo_filter (fr := []) (t := tcmp neV (vr 0) (ci 0)) (e := vr 0) (q := fun x => !(x == 0)) (g := id) row (fun x _ => rfl) (fun x _ => rfl)
      simpa using this)
  have hk : ∀ x ∈ (row.filter fun x => !(x == 0)),Sm 4000 x := fun x hx => hr.sm x (List.mem_filter.mp hx).1
  have kl : (row.filter fun x => !(x == 0)).length ≤ row.length := List.length_filter_le _ _
  unfold chL
  generalize (row.filter fun x => !(x == 0)) = k at c2 hk kl
  have kg : Gd 100 4000 k := ⟨by lia,hk⟩
  have c3 : una lenV (comp (itUp (ci 0) (bin subV (una lenV (vr 1)) (ci 1))) take1 [1] (tcmp ltV (bin mulV (idx (vr 1) (vr 0)) (idx (vr 1) (bin addV (vr 0) (ci 1)))) (ci 0)) (ci 1)) [.val (pvI row),.val (pvI k)] = some (.int (adj (fun a b => decide (a * b < 0)) k)) := by
    have hit : itUp (ci 0) (bin subV (una lenV (vr 1)) (ci 1)) [.val (pvI row),.val (pvI k)] = some (((List.range (k.length - 1)).map fun (i : Nat) => (0 : Int) + i).map .int) := by
      simp only [itUp,run,sSeq,sRet,sAsg,sTup,sUnp,sIf,sNop,sOwn,sFrz,sDrop,sM0,sM1,sM2,evs,bin,una,vr,ci,cst,ifx,tcmp,tand,tor,tnot,tval,vtst,lst,tpl,idx_app,call,List.map_cons,List.map_nil,List.length_cons,List.length_nil,List.cons_append,List.nil_append,List.getElem?_cons_zero,List.getElem?_cons_succ,List.set_cons_zero,List.set_cons_succ,List.replicate,List.replicate_zero,List.replicate_succ,Nat.reduceAdd,Nat.reduceSub,if_true,decide_true,decide_false,lenV_pvI,subV_int,okR_small 0 ((k.length : Int) - 1) (by decide) (by lia)]
      rw [upto_ints]
      congr 4
      lia
    have hc := comp_eq (e := ci 1) (t := tcmp ltV (bin mulV (idx (vr 1) (vr 0)) (idx (vr 1) (bin addV (vr 0) (ci 1)))) (ci 0)) (fr := [1]) hit (by rw [List.length_map,List.length_map,List.length_range,lenMax_eq]; lia) (take1_all _) (F := [.val (pvI k)]) rfl
      (compGo_filter (q := fun x => decide (k.getD x.toNat 0 * k.getD (x + 1).toNat 0 < 0)) (g := fun _ => 1) _ (fun x hx => by
        obtain ⟨i,hi,rfl⟩ := List.mem_map.mp hx
        rw [List.mem_range] at hi
        have i1 := getD_idx k (i + 1) (by lia)
        have i2 := getD_idx k i (by lia)
        have e1 : (0 : Int) + (i : Int) = (i : Int) := by lia
        have e2 : (i : Int) + 1 = ((i + 1 : Nat) : Int) := by lia
        have e3 := mulV_ok (kg.get (i := i)) (kg.get (i := i + 1)) (by decide) (by decide)
        rw [e1]
        simp only [run,sSeq,sRet,sAsg,sTup,sUnp,sIf,sNop,sOwn,sFrz,sDrop,sM0,sM1,sM2,evs,bin,una,vr,ci,cst,ifx,tcmp,tand,tor,tnot,tval,vtst,lst,tpl,idx_app,call,List.map_cons,List.map_nil,List.length_cons,List.length_nil,List.cons_append,List.nil_append,List.getElem?_cons_zero,List.getElem?_cons_succ,List.set_cons_zero,List.set_cons_succ,List.replicate,List.replicate_zero,List.replicate_succ,Nat.reduceAdd,Nat.reduceSub,if_true,decide_true,decide_false,addV_int,e2,i1,i2,e3,ltV,Int.toNat_natCast]) (fun x hx => rfl))
    rw [una_some hc]
    simp only [lenV,List.length_map,Option.some.injEq,PV.int.injEq]
    rw [← adj_range,List.filter_map,List.length_map]
    congr 2
    refine List.filter_congr fun i _ => ?_
    have e1 : ((0 : Int) + (i : Int)).toNat = i := by lia
    have e2 : ((0 : Int) + (i : Int) + 1).toNat = i + 1 := by lia
    simp only [Function.comp,e1,e2]
  show run 2 b_law_changes [pvI row] = _
  simp only [run,sSeq,sAsg,sRet,b_law_changes,List.map_cons,List.map_nil,List.length_cons,List.length_nil,List.cons_append,List.nil_append,List.replicate,Nat.reduceAdd,Nat.reduceSub,c2,List.set_cons_succ,List.set_cons_zero,c3]
end Mine
end
section
open PySem PySem.W PyProof.Rows
set_option exponentiation.threshold 10000
namespace Mine
noncomputable def valB (n j : Nat) (f : List Int) : Int := (mapE (fun i x => x * (j : Int) ^ i.toNat * 4 ^ ((n : Int) - i).toNat) 0 f).sum
noncomputable def gapB (n j : Nat) (f row ch : List Int) : List Int := (List.range (n + 1)).map fun k => row.getD k 0 * 4 ^ n - valB n j f * ch.getD k 0
theorem sumFits_of {B : Nat} : ∀ (l : List Int) (t : Int),(∀ x ∈ l,x.natAbs ≤ B) → t.natAbs + l.length * B < 4611686018427387904 → sumFits t l = true
  | [],_,_,_ => rfl
  | a :: r,t,h,hb => by
    have h1 := h a (.head _)
    rw [List.length_cons,Nat.succ_mul] at hb
    have l1 : ∀ x : Int,x.natAbs < 4611686018427387904 → inLong x = true := fun x hx => by
      unfold inLong; rw [decide_eq_true (by lia),decide_eq_true (by lia)]; rfl
    have h2 := Int.natAbs_add_le t a
    rw [sumFits,l1 a (by lia),l1 (t + a) (by lia),sumFits_of r (t + a) (fun x q => h x (.tail _ q)) (by lia)]
    rfl
theorem mapE_sm {k : Nat} {g : Int → Int → Int} : ∀ (l : List Int) (n : Int),(∀ i x,x ∈ l → n ≤ i → i < n + l.length → Sm k (g i x)) → ∀ y ∈ mapE g n l,Sm k y
  | [],_,_,y,hy => nomatch hy
  | a :: r,n,h,y,hy => by
    rw [mapE] at hy
    cases hy with
    | head => exact h n a (.head _) (by lia) (by simp; lia)
    | tail _ q => exact mapE_sm r (n + 1) (fun i x hx h1 h2 => h i x (.tail _ hx) (by lia) (by simp; lia)) y q
theorem minV_no {l : List Int} {a : Int} {r : List Int} (hl : l = a :: r) (h : ¬ ∀ x ∈ l,x > 0) : (minV (pvI l)).bind (fun x => gtV x (.int 0)) = some false := by
  subst hl
  simp only [minV,pvI,intsOf_map,Option.bind_some,gtV]
  rw [decide_eq_false]
  intro q
  refine h fun x hx => ?_
  have := bestMin_gt r a q
  cases hx with
  | head => exact this.1
  | tail _ w => exact this.2 x w
theorem maxV_no {l : List Int} {a : Int} {r : List Int} (hl : l = a :: r) (h : ¬ ∀ x ∈ l,x < 0) : (maxV (pvI l)).bind (fun x => ltV x (.int 0)) = some false := by
  subst hl
  simp only [maxV,pvI,intsOf_map,Option.bind_some,ltV]
  rw [decide_eq_false]
  intro q
  refine h fun x hx => ?_
  have := bestMax_lt r a q
  cases hx with
  | head => exact this.1
  | tail _ w => exact this.2 x w
theorem tcmp_bind {f : PV → PV → Option Bool} {t : PV → Option PV} {σ : Sl} {x y : PV} {b : Bool} {i : Nat} {k : Int} (h : σ[i]? = some (.val x)) (hb : (t x).bind (fun z => f z (.int k)) = some b) : tcmp f (una t (vr i)) (ci k) σ = some b := by
  unfold tcmp una vr ci
  rw [h]
  dsimp only
  cases z : t x with
  | none => rw [z] at hb; cases hb
  | some w => rw [z] at hb; exact hb
theorem btw_step {f row ch : List Int} {n j : Nat} (hn : n ≤ 4) (hj : j ≤ 3) (hf : f.length = n + 1) (hr : row.length = n + 1) (hc : ch.length = n + 1) (sf : ∀ x ∈ f,Sm 24 x) (sr : ∀ x ∈ row,Sm 40 x) (sc : ∀ x ∈ ch,Sm 4 x)
    (hp : ¬ ∀ x ∈ gapB n j f row ch,x > 0) (hm : ¬ ∀ x ∈ gapB n j f row ch,x < 0) (s5 s6 : Slot) : (sSeq (sAsg 5 (una sumV (comp (itEnum (vr 0)) take2 [4,2] ttrue (bin mulV (bin mulV (vr 1) (bin powV (vr 2) (vr 0))) (bin powV (ci 4) (bin subV (vr 3) (vr 0)))))))
  (sSeq (sAsg 6 (comp (itUp (ci 0) (bin addV (vr 2) (ci 1))) take1 [5,1,2,3] ttrue (bin subV (bin mulV (idx (vr 2) (vr 0)) (bin powV (ci 4) (vr 3))) (bin mulV (vr 1) (idx (vr 4) (vr 0))))))
  (sIf (tor (tcmp gtV (una minV (vr 6)) (ci 0)) (tcmp ltV (una maxV (vr 6)) (ci 0)))
  (sRet (cst (.bool false)))
  sNop))) [.val (pvI f),.val (pvI row),.val (.int n),.val (pvI ch),.val (.int j),s5,s6] = some (.next [.val (pvI f),.val (pvI row),.val (.int n),.val (pvI ch),.val (.int j),.val (.int (valB n j f)),.val (pvI (gapB n j f row ch))]) := by
  have s4 : Sm 3 4 := by unfold Sm; decide
  have sj : Sm 2 (j : Int) := by unfold Sm; lia
  have sg : ∀ i x,x ∈ f → (0 : Int) ≤ i → i < 0 + f.length → Sm 46 (x * (j : Int) ^ i.toNat * 4 ^ ((n : Int) - i).toNat) := fun i x hx h0 h1 => by
    have e1 := (sj.pow i.toNat).mono (show 2 * i.toNat + 1 ≤ 9 by lia)
    have e2 := (s4.pow ((n : Int) - i).toNat).mono (show 3 * ((n : Int) - i).toNat + 1 ≤ 13 by lia)
    exact (((sf x hx).mul e1).mul e2).mono (by decide)
  have c1 : comp (itEnum (vr 0)) take2 [4,2] ttrue (bin mulV (bin mulV (vr 1) (bin powV (vr 2) (vr 0))) (bin powV (ci 4) (bin subV (vr 3) (vr 0)))) [.val (pvI f),.val (pvI row),.val (.int n),.val (pvI ch),.val (.int j),s5,s6] = some (pvI (mapE (fun i x => x * (j : Int) ^ i.toNat * 4 ^ ((n : Int) - i).toNat) 0 f)) :=
    comp_eq (xs := enumFrom' 0 (f.map .int)) rfl (by simp [enumP_length,lenMax_eq]; lia) (enum_all _ _) (F := [.val (.int j),.val (.int n)]) rfl (compGo_enum 0 f (fun _ _ _ _ _ => rfl) fun i x hx h0 h1 => by
      have p1 := powV_ok (k := i) sj (by decide) h0 (by lia)
      have p2 := powV_ok (k := (n : Int) - i) s4 (by decide) (by lia) (by lia)
      have e1 := (sj.pow i.toNat).mono (show 2 * i.toNat + 1 ≤ 9 by lia)
      have e2 := (s4.pow ((n : Int) - i).toNat).mono (show 3 * ((n : Int) - i).toNat + 1 ≤ 13 by lia)
      have m1 := mulV_ok (sf x hx) e1 (by decide) (by decide)
      have m2 := mulV_ok ((sf x hx).mul e1) e2 (by decide) (by decide)
      simp only [bin,vr,ci,List.getElem?_cons_zero,List.getElem?_cons_succ,p1,subV_int,p2,m1,m2])
  have mlen : (mapE (fun i x => x * (j : Int) ^ i.toNat * 4 ^ ((n : Int) - i).toNat) 0 f).length = n + 1 := by rw [mapE_length,hf]
  have sval := mapE_sm f 0 sg
  have c2 : una sumV (comp (itEnum (vr 0)) take2 [4,2] ttrue (bin mulV (bin mulV (vr 1) (bin powV (vr 2) (vr 0))) (bin powV (ci 4) (bin subV (vr 3) (vr 0))))) [.val (pvI f),.val (pvI row),.val (.int n),.val (pvI ch),.val (.int j),s5,s6] = some (.int (valB n j f)) := by
    rw [una_some c1]
    simp only [sumV,pvI,intsOf_map]
    rw [if_pos (sumFits_of (B := 2 ^ 46) _ 0 (fun x hx => Nat.le_of_lt (sval x hx)) (by
      rw [mlen]
      have : (n + 1) * 2 ^ 46 ≤ 5 * 2 ^ 46 := Nat.mul_le_mul (by lia) (Nat.le_refl _)
      have e : (0 : Int).natAbs = 0 := rfl
      lia))]
    rfl
  have sv : Sm 60 (valB n j f) := by
    have gen : ∀ (l : List Int) (k : Nat),(∀ x ∈ l,Sm 46 x) → l.length ≤ k → Sm (46 + k) l.sum := by
      intro l
      induction l with
      | nil => intro k _ _; exact Sm.zero
      | cons a r ih =>
        intro k h hk
        rw [List.sum_cons]
        obtain ⟨k,rfl⟩ : ∃ m,k = m + 1 := ⟨k - 1,by simp at hk; lia⟩
        exact ((h a (.head _)).mono (show 46 ≤ 46 + k by lia)).add (ih k (fun x q => h x (.tail _ q)) (by simp at hk; lia))
    exact (gen _ (n + 1) sval (by rw [mlen]; exact Nat.le_refl _)).mono (by lia)
  have c3 : comp (itUp (ci 0) (bin addV (vr 2) (ci 1))) take1 [5,1,2,3] ttrue (bin subV (bin mulV (idx (vr 2) (vr 0)) (bin powV (ci 4) (vr 3))) (bin mulV (vr 1) (idx (vr 4) (vr 0)))) [.val (pvI f),.val (pvI row),.val (.int n),.val (pvI ch),.val (.int j),.val (.int (valB n j f)),s6] = some (pvI (gapB n j f row ch)) := by
    have hit : itUp (ci 0) (bin addV (vr 2) (ci 1)) [.val (pvI f),.val (pvI row),.val (.int n),.val (pvI ch),.val (.int j),.val (.int (valB n j f)),s6] = some (((List.range (n + 1)).map fun (i : Nat) => (0 : Int) + i).map .int) := by
      simp only [itUp,bin,vr,ci,List.getElem?_cons_zero,List.getElem?_cons_succ,addV_int,okR_small 0 ((n : Int) + 1) (by decide) (by lia)]
      rw [if_pos trivial,upto_ints,show ((n : Int) + 1 - 0).toNat = n + 1 by lia]
    have hcc := comp_eq (e := (bin subV (bin mulV (idx (vr 2) (vr 0)) (bin powV (ci 4) (vr 3))) (bin mulV (vr 1) (idx (vr 4) (vr 0))))) (t := ttrue) (fr := [5,1,2,3]) hit (by rw [List.length_map,List.length_map,List.length_range,lenMax_eq]; lia) (take1_all _) (F := [.val (.int (valB n j f)),.val (pvI row),.val (.int n),.val (pvI ch)]) rfl
      (compGo_map (g := fun x => row.getD x.toNat 0 * 4 ^ n - valB n j f * ch.getD x.toNat 0) _ (fun _ _ => rfl) fun x hx => by
        obtain ⟨i,hi,rfl⟩ := List.mem_map.mp hx
        rw [List.mem_range] at hi
        have i1 := getD_idx row i (by lia)
        have i2 := getD_idx ch i (by lia)
        have p2 := powV_ok (k := (n : Int)) s4 (by decide) (by lia) (by lia)
        rw [Int.toNat_natCast] at p2
        have gr : Sm 40 (row.getD i 0) := Gd.get (k := row.length) ⟨Nat.le_refl _,sr⟩
        have gc : Sm 4 (ch.getD i 0) := Gd.get (k := ch.length) ⟨Nat.le_refl _,sc⟩
        have m1 := mulV_ok gr ((s4.pow n).mono (show 3 * n + 1 ≤ 13 by lia)) (by decide) (by decide)
        have m2 := mulV_ok sv gc (by decide) (by decide)
        have e : ((0 : Int) + (i : Int)) = (i : Int) := by lia
        rw [e]
        simp only [bin,idx_app,vr,ci,List.getElem?_cons_zero,List.getElem?_cons_succ,i1,i2,p2,m1,m2,subV_int,Int.toNat_natCast])
    rw [hcc]
    unfold gapB pvI
    refine congrArg (fun z : List Int => some (PV.list (z.map PV.int))) ?_
    rw [List.map_map]
    refine List.map_congr_left fun i _ => ?_
    have e : ((0 : Int) + (i : Int)).toNat = i := by lia
    simp only [Function.comp,e]
  obtain ⟨a,r,hl⟩ : ∃ a r,gapB n j f row ch = a :: r := by
    cases h : gapB n j f row ch with
    | nil => have := congrArg List.length h; simp [gapB] at this
    | cons a r => exact ⟨a,r,rfl⟩
  have t1 := tcmp_bind (σ := [.val (pvI f),.val (pvI row),.val (.int n),.val (pvI ch),.val (.int j),.val (.int (valB n j f)),.val (pvI (gapB n j f row ch))]) (i := 6) (y := .none) rfl (minV_no hl hp)
  have t2 := tcmp_bind (σ := [.val (pvI f),.val (pvI row),.val (.int n),.val (pvI ch),.val (.int j),.val (.int (valB n j f)),.val (pvI (gapB n j f row ch))]) (i := 6) (y := .none) rfl (maxV_no hl hm)
  simp only [sSeq,sAsg,sIf,tor,sNop,c2,List.set_cons_zero,List.set_cons_succ,c3,t1,t2]
theorem e_btw {f row ch : List Int} {n : Nat} (hn : n ≤ 4) (hf : f.length = n + 1) (hr : row.length = n + 1) (hc : ch.length = n + 1) (hch : d_law_choices [.int n] = some (pvI ch)) (sf : ∀ x ∈ f,Sm 24 x) (sr : ∀ x ∈ row,Sm 40 x) (sc : ∀ x ∈ ch,Sm 4 x)
    (hp : ∀ j,0 < j → j < 4 → ¬ (∀ x ∈ gapB n j f row ch,x > 0) ∧ ¬ ∀ x ∈ gapB n j f row ch,x < 0) : d_law_between [pvI f,pvI row] = some (.bool true) := by
  rw [d_law_between_eq]
  have e : ((f.length : Int) - 1) = (n : Int) := by lia
  have b1 := btw_step hn (show 1 ≤ 3 by decide) hf hr hc sf sr sc (hp 1 (by decide) (by decide)).1 (hp 1 (by decide) (by decide)).2
  have b2 := btw_step hn (show 2 ≤ 3 by decide) hf hr hc sf sr sc (hp 2 (by decide) (by decide)).1 (hp 2 (by decide) (by decide)).2
  have b3 := btw_step hn (show 3 ≤ 3 by decide) hf hr hc sf sr sc (hp 3 (by decide) (by decide)).1 (hp 3 (by decide) (by decide)).2
  rw [show ((1 : Nat) : Int) = 1 from rfl] at b1
  rw [show ((2 : Nat) : Int) = 2 from rfl] at b2
  rw [show ((3 : Nat) : Int) = 3 from rfl] at b3
  unfold b_law_between
  generalize (sSeq (sAsg 5 (una sumV (comp (itEnum (vr 0)) take2 [4,2] ttrue (bin mulV (bin mulV (vr 1) (bin powV (vr 2) (vr 0))) (bin powV (ci 4) (bin subV (vr 3) (vr 0)))))))
  (sSeq (sAsg 6 (comp (itUp (ci 0) (bin addV (vr 2) (ci 1))) take1 [5,1,2,3] ttrue (bin subV (bin mulV (idx (vr 2) (vr 0)) (bin powV (ci 4) (vr 3))) (bin mulV (vr 1) (idx (vr 4) (vr 0))))))
  (sIf (tor (tcmp gtV (una minV (vr 6)) (ci 0)) (tcmp ltV (una maxV (vr 6)) (ci 0)))
  (sRet (cst (.bool false)))
  sNop))) = B at b1 b2 b3 ⊢
  have hs : ∀ s4 s5 s6,sFor (itv (tpl [(ci 1),(ci 2),(ci 3)])) take1 [4] B [.val (pvI f),.val (pvI row),.val (.int n),.val (pvI ch),s4,s5,s6] = some (.next [.val (pvI f),.val (pvI row),.val (.int n),.val (pvI ch),.val (.int 3),.val (.int (valB n 3 f)),.val (pvI (gapB n 3 f row ch))]) := fun s4 s5 s6 => by
    rw [sFor_of (xs := [.int 1,.int 2,.int 3]) rfl rfl]
    simp only [forGo,take1,bindT,sM0,sM1,sM2,List.map_cons,List.map_nil,List.set_cons_zero,List.set_cons_succ,b1,b2,b3]
  generalize sFor (itv (tpl [(ci 1),(ci 2),(ci 3)])) take1 [4] B = S at hs ⊢
  simp only [run,sSeq,sRet,sAsg,sTup,sUnp,sIf,sNop,sOwn,sFrz,sDrop,sM0,sM1,sM2,evs,bin,una,vr,ci,cst,ifx,tcmp,tand,tor,tnot,tval,vtst,lst,tpl,idx_app,call,List.map_cons,List.map_nil,List.length_cons,List.length_nil,List.cons_append,List.nil_append,List.getElem?_cons_zero,List.getElem?_cons_succ,List.set_cons_zero,List.set_cons_succ,List.replicate,List.replicate_zero,List.replicate_succ,Nat.reduceAdd,Nat.reduceSub,if_true,decide_true,decide_false,lenV_pvI,subV_int,e,hch,hs]
theorem two_no {l : List Int} {W : List Int} (h : (List.zipWith (· * ·) W l).sum = 0) (hw : ∀ x ∈ W,x > 0) (hl : W.length = l.length) (h0 : l ≠ []) : (¬ ∀ x ∈ l,x > 0) ∧ ¬ ∀ x ∈ l,x < 0 := by
  have key : ∀ (W l : List Int),W.length = l.length → (∀ x ∈ W,x > 0) → ((∀ x ∈ l,x > 0) → (List.zipWith (· * ·) W l).sum ≥ 0 ∧ (l ≠ [] → (List.zipWith (· * ·) W l).sum > 0)) ∧ ((∀ x ∈ l,x < 0) → (List.zipWith (· * ·) W l).sum ≤ 0 ∧ (l ≠ [] → (List.zipWith (· * ·) W l).sum < 0)) := by
    intro W
    induction W with
    | nil => intro l hl _; cases l with
      | nil => exact ⟨fun _ => ⟨Int.le_refl _,fun q => (q rfl).elim⟩,fun _ => ⟨Int.le_refl _,fun q => (q rfl).elim⟩⟩
      | cons _ _ => simp at hl
    | cons w W ih =>
      intro l hl hw
      cases l with
      | nil => simp at hl
      | cons a r =>
        have i := ih r (by simpa using hl) fun x q => hw x (.tail _ q)
        have w0 := hw w (.head _)
        simp only [List.zipWith_cons_cons,List.sum_cons]
        refine ⟨fun h => ?_,fun h => ?_⟩
        · have p := Int.mul_pos w0 (h a (.head _))
          have q := (i.1 fun x u => h x (.tail _ u)).1
          exact ⟨by lia,fun _ => by lia⟩
        · have p := Int.mul_neg_of_pos_of_neg w0 (h a (.head _))
          have q := (i.2 fun x u => h x (.tail _ u)).1
          exact ⟨by lia,fun _ => by lia⟩
  have k := key W l hl hw
  exact ⟨fun q => by have := (k.1 q).2 h0; lia,fun q => by have := (k.2 q).2 h0; lia⟩
theorem j123 {P : Nat → Prop} (h1 : P 1) (h2 : P 2) (h3 : P 3) : ∀ j,0 < j → j < 4 → P j := by
  intro j h0 h4
  match j,h0,h4 with
  | 1,_,_ => exact h1
  | 2,_,_ => exact h2
  | 3,_,_ => exact h3
theorem sm24 {x : Int} (h : Bd x) : Sm 24 x := by unfold Bd at h; unfold Sm; lia
theorem sm40' {x : Int} (h : -1000000000 ≤ x ∧ x ≤ 1000000000) : Sm 40 x := by unfold Sm; lia
theorem rowB_2 {a b : Int} (ha : Bd a) (hb : Bd b) : ∀ x ∈ rowL [a,b],Sm 40 x := fun x hx => sm40' (by
  unfold Bd at *
  simp only [rowL_2,rowL_3,rowL_4,rowL_5,List.mem_cons,List.not_mem_nil,or_false] at hx
  lia)
theorem btw_2 {a b : Int} (ha : Bd a) (hb : Bd b) : d_law_between [pvI [a,b],pvI (rowL [a,b])] = some (.bool true) := by
  refine e_btw (n := 1) (ch := [1,1]) (by decide) rfl rfl rfl ch_1 (fun x hx => ?_) (rowB_2 ha hb) (fun x hx => by unfold Sm; simp only [List.mem_cons,List.not_mem_nil,or_false] at hx; lia) (j123 ?_ ?_ ?_)
  · simp only [List.mem_cons,List.not_mem_nil,or_false] at hx
    rcases hx with rfl | rfl
    · exact sm24 ha
    · exact sm24 hb
  · refine two_no (W := [3,1]) ?_ (by decide) rfl (by simp [gapB,List.range_succ])
    simp only [gapB,valB,mapE,rowL_2,rowL_3,rowL_4,rowL_5,List.range_succ,List.range_zero,List.nil_append,List.cons_append,List.map_cons,List.map_nil,List.zipWith_cons_cons,List.zipWith_nil_left,List.sum_cons,List.sum_nil,List.getD_cons_zero,List.getD_cons_succ,Int.reduceAdd,Int.reduceToNat,Int.reduceSub,Int.reducePow,Int.ofNat_eq_natCast,Int.cast_ofNat_Int,Int.reduceMul]
    clear ha hb
    grind
  · refine two_no (W := [2,2]) ?_ (by decide) rfl (by simp [gapB,List.range_succ])
    simp only [gapB,valB,mapE,rowL_2,rowL_3,rowL_4,rowL_5,List.range_succ,List.range_zero,List.nil_append,List.cons_append,List.map_cons,List.map_nil,List.zipWith_cons_cons,List.zipWith_nil_left,List.sum_cons,List.sum_nil,List.getD_cons_zero,List.getD_cons_succ,Int.reduceAdd,Int.reduceToNat,Int.reduceSub,Int.reducePow,Int.ofNat_eq_natCast,Int.cast_ofNat_Int,Int.reduceMul]
    clear ha hb
    grind
  · refine two_no (W := [1,3]) ?_ (by decide) rfl (by simp [gapB,List.range_succ])
    simp only [gapB,valB,mapE,rowL_2,rowL_3,rowL_4,rowL_5,List.range_succ,List.range_zero,List.nil_append,List.cons_append,List.map_cons,List.map_nil,List.zipWith_cons_cons,List.zipWith_nil_left,List.sum_cons,List.sum_nil,List.getD_cons_zero,List.getD_cons_succ,Int.reduceAdd,Int.reduceToNat,Int.reduceSub,Int.reducePow,Int.ofNat_eq_natCast,Int.cast_ofNat_Int,Int.reduceMul]
    clear ha hb
    grind
theorem rowB_3 {a b c : Int} (ha : Bd a) (hb : Bd b) (hc : Bd c) : ∀ x ∈ rowL [a,b,c],Sm 40 x := fun x hx => sm40' (by
  unfold Bd at *
  simp only [rowL_2,rowL_3,rowL_4,rowL_5,List.mem_cons,List.not_mem_nil,or_false] at hx
  lia)
theorem btw_3 {a b c : Int} (ha : Bd a) (hb : Bd b) (hc : Bd c) : d_law_between [pvI [a,b,c],pvI (rowL [a,b,c])] = some (.bool true) := by
  refine e_btw (n := 2) (ch := [1,2,1]) (by decide) rfl rfl rfl ch_2 (fun x hx => ?_) (rowB_3 ha hb hc) (fun x hx => by unfold Sm; simp only [List.mem_cons,List.not_mem_nil,or_false] at hx; lia) (j123 ?_ ?_ ?_)
  · simp only [List.mem_cons,List.not_mem_nil,or_false] at hx
    rcases hx with rfl | rfl | rfl
    · exact sm24 ha
    · exact sm24 hb
    · exact sm24 hc
  · refine two_no (W := [9,3,1]) ?_ (by decide) rfl (by simp [gapB,List.range_succ])
    simp only [gapB,valB,mapE,rowL_2,rowL_3,rowL_4,rowL_5,List.range_succ,List.range_zero,List.nil_append,List.cons_append,List.map_cons,List.map_nil,List.zipWith_cons_cons,List.zipWith_nil_left,List.sum_cons,List.sum_nil,List.getD_cons_zero,List.getD_cons_succ,Int.reduceAdd,Int.reduceToNat,Int.reduceSub,Int.reducePow,Int.ofNat_eq_natCast,Int.cast_ofNat_Int,Int.reduceMul]
    clear ha hb
    grind
  · refine two_no (W := [4,4,4]) ?_ (by decide) rfl (by simp [gapB,List.range_succ])
    simp only [gapB,valB,mapE,rowL_2,rowL_3,rowL_4,rowL_5,List.range_succ,List.range_zero,List.nil_append,List.cons_append,List.map_cons,List.map_nil,List.zipWith_cons_cons,List.zipWith_nil_left,List.sum_cons,List.sum_nil,List.getD_cons_zero,List.getD_cons_succ,Int.reduceAdd,Int.reduceToNat,Int.reduceSub,Int.reducePow,Int.ofNat_eq_natCast,Int.cast_ofNat_Int,Int.reduceMul]
    clear ha hb
    grind
  · refine two_no (W := [1,3,9]) ?_ (by decide) rfl (by simp [gapB,List.range_succ])
    simp only [gapB,valB,mapE,rowL_2,rowL_3,rowL_4,rowL_5,List.range_succ,List.range_zero,List.nil_append,List.cons_append,List.map_cons,List.map_nil,List.zipWith_cons_cons,List.zipWith_nil_left,List.sum_cons,List.sum_nil,List.getD_cons_zero,List.getD_cons_succ,Int.reduceAdd,Int.reduceToNat,Int.reduceSub,Int.reducePow,Int.ofNat_eq_natCast,Int.cast_ofNat_Int,Int.reduceMul]
    clear ha hb
    grind
theorem rowB_4 {a b c d : Int} (ha : Bd a) (hb : Bd b) (hc : Bd c) (hd : Bd d) : ∀ x ∈ rowL [a,b,c,d],Sm 40 x := fun x hx => sm40' (by
  unfold Bd at *
  simp only [rowL_2,rowL_3,rowL_4,rowL_5,List.mem_cons,List.not_mem_nil,or_false] at hx
  lia)
theorem btw_4 {a b c d : Int} (ha : Bd a) (hb : Bd b) (hc : Bd c) (hd : Bd d) : d_law_between [pvI [a,b,c,d],pvI (rowL [a,b,c,d])] = some (.bool true) := by
  refine e_btw (n := 3) (ch := [1,3,3,1]) (by decide) rfl rfl rfl ch_3 (fun x hx => ?_) (rowB_4 ha hb hc hd) (fun x hx => by unfold Sm; simp only [List.mem_cons,List.not_mem_nil,or_false] at hx; lia) (j123 ?_ ?_ ?_)
  · simp only [List.mem_cons,List.not_mem_nil,or_false] at hx
    rcases hx with rfl | rfl | rfl | rfl
    · exact sm24 ha
    · exact sm24 hb
    · exact sm24 hc
    · exact sm24 hd
  · refine two_no (W := [27,9,3,1]) ?_ (by decide) rfl (by simp [gapB,List.range_succ])
    simp only [gapB,valB,mapE,rowL_2,rowL_3,rowL_4,rowL_5,List.range_succ,List.range_zero,List.nil_append,List.cons_append,List.map_cons,List.map_nil,List.zipWith_cons_cons,List.zipWith_nil_left,List.sum_cons,List.sum_nil,List.getD_cons_zero,List.getD_cons_succ,Int.reduceAdd,Int.reduceToNat,Int.reduceSub,Int.reducePow,Int.ofNat_eq_natCast,Int.cast_ofNat_Int,Int.reduceMul]
    clear ha hb
    grind
  · refine two_no (W := [8,8,8,8]) ?_ (by decide) rfl (by simp [gapB,List.range_succ])
    simp only [gapB,valB,mapE,rowL_2,rowL_3,rowL_4,rowL_5,List.range_succ,List.range_zero,List.nil_append,List.cons_append,List.map_cons,List.map_nil,List.zipWith_cons_cons,List.zipWith_nil_left,List.sum_cons,List.sum_nil,List.getD_cons_zero,List.getD_cons_succ,Int.reduceAdd,Int.reduceToNat,Int.reduceSub,Int.reducePow,Int.ofNat_eq_natCast,Int.cast_ofNat_Int,Int.reduceMul]
    clear ha hb
    grind
  · refine two_no (W := [1,3,9,27]) ?_ (by decide) rfl (by simp [gapB,List.range_succ])
    simp only [gapB,valB,mapE,rowL_2,rowL_3,rowL_4,rowL_5,List.range_succ,List.range_zero,List.nil_append,List.cons_append,List.map_cons,List.map_nil,List.zipWith_cons_cons,List.zipWith_nil_left,List.sum_cons,List.sum_nil,List.getD_cons_zero,List.getD_cons_succ,Int.reduceAdd,Int.reduceToNat,Int.reduceSub,Int.reducePow,Int.ofNat_eq_natCast,Int.cast_ofNat_Int,Int.reduceMul]
    clear ha hb
    grind
theorem rowB_5 {a b c d e : Int} (ha : Bd a) (hb : Bd b) (hc : Bd c) (hd : Bd d) (he : Bd e) : ∀ x ∈ rowL [a,b,c,d,e],Sm 40 x := fun x hx => sm40' (by
  unfold Bd at *
  simp only [rowL_2,rowL_3,rowL_4,rowL_5,List.mem_cons,List.not_mem_nil,or_false] at hx
  lia)
theorem btw_5 {a b c d e : Int} (ha : Bd a) (hb : Bd b) (hc : Bd c) (hd : Bd d) (he : Bd e) : d_law_between [pvI [a,b,c,d,e],pvI (rowL [a,b,c,d,e])] = some (.bool true) := by
  refine e_btw (n := 4) (ch := [1,4,6,4,1]) (by decide) rfl rfl rfl ch_4 (fun x hx => ?_) (rowB_5 ha hb hc hd he) (fun x hx => by unfold Sm; simp only [List.mem_cons,List.not_mem_nil,or_false] at hx; lia) (j123 ?_ ?_ ?_)
  · simp only [List.mem_cons,List.not_mem_nil,or_false] at hx
    rcases hx with rfl | rfl | rfl | rfl | rfl
    · exact sm24 ha
    · exact sm24 hb
    · exact sm24 hc
    · exact sm24 hd
    · exact sm24 he
  · refine two_no (W := [81,27,9,3,1]) ?_ (by decide) rfl (by simp [gapB,List.range_succ])
    simp only [gapB,valB,mapE,rowL_2,rowL_3,rowL_4,rowL_5,List.range_succ,List.range_zero,List.nil_append,List.cons_append,List.map_cons,List.map_nil,List.zipWith_cons_cons,List.zipWith_nil_left,List.sum_cons,List.sum_nil,List.getD_cons_zero,List.getD_cons_succ,Int.reduceAdd,Int.reduceToNat,Int.reduceSub,Int.reducePow,Int.ofNat_eq_natCast,Int.cast_ofNat_Int,Int.reduceMul]
    clear ha hb
    grind
  · refine two_no (W := [16,16,16,16,16]) ?_ (by decide) rfl (by simp [gapB,List.range_succ])
    simp only [gapB,valB,mapE,rowL_2,rowL_3,rowL_4,rowL_5,List.range_succ,List.range_zero,List.nil_append,List.cons_append,List.map_cons,List.map_nil,List.zipWith_cons_cons,List.zipWith_nil_left,List.sum_cons,List.sum_nil,List.getD_cons_zero,List.getD_cons_succ,Int.reduceAdd,Int.reduceToNat,Int.reduceSub,Int.reducePow,Int.ofNat_eq_natCast,Int.cast_ofNat_Int,Int.reduceMul]
    clear ha hb
    grind
  · refine two_no (W := [1,3,9,27,81]) ?_ (by decide) rfl (by simp [gapB,List.range_succ])
    simp only [gapB,valB,mapE,rowL_2,rowL_3,rowL_4,rowL_5,List.range_succ,List.range_zero,List.nil_append,List.cons_append,List.map_cons,List.map_nil,List.zipWith_cons_cons,List.zipWith_nil_left,List.sum_cons,List.sum_nil,List.getD_cons_zero,List.getD_cons_succ,Int.reduceAdd,Int.reduceToNat,Int.reduceSub,Int.reducePow,Int.ofNat_eq_natCast,Int.cast_ofNat_Int,Int.reduceMul]
    clear ha hb
    grind
end Mine
end
section
open PySem PySem.W PyProof.Rows
set_option exponentiation.threshold 10000
namespace Mine
noncomputable def shStep (l : List Int) (i : Nat) : List Int := l.set i (l.getD i 0 + 1 * l.getD (i + 1) 0)
theorem shStep_gd {k n i : Nat} {l : List Int} (h : Gd k n l) : Gd k (n + 1) (shStep l i) :=
  (h.mono (Nat.le_refl _) (Nat.le_succ n)).set (h.get.add (by rw [Int.one_mul]; exact h.get))
theorem shFold_gd {k : Nat} : ∀ (is : List Nat) (l : List Int) (n : Nat),Gd k n l → Gd k (n + is.length) (is.foldl shStep l)
  | [],l,n,h => h
  | i :: r,l,n,h => (shFold_gd r _ _ (shStep_gd h)).mono (Nat.le_refl _) (by simp; lia)
theorem shStep_length (l : List Int) (i : Nat) : (shStep l i).length = l.length := by simp [shStep]
theorem shFold_length : ∀ (is : List Nat) (l : List Int),(is.foldl shStep l).length = l.length
  | [],l => rfl
  | i :: r,l => (shFold_length r _).trans (shStep_length l i)
theorem idxL_at (fd : List Int) (i : Nat) (h : i < fd.length) : idxL (fd.map .int) (i : Int) = some (.int (fd.getD i 0)) := getD_idx fd i h
theorem setIdx_at (fd : List Int) (i : Nat) (x : Int) (h : i < fd.length) : setIdx (fd.map .int) (i : Int) (.int x) = some ((fd.set i x).map .int) := by
  unfold setIdx
  rw [if_pos ⟨by lia,by rw [List.length_map]; lia⟩,List.map_set]
  congr 2
theorem le_max {fd : List Int} (h : fd.length ≤ 1000) : (fd.map PV.int).length ≤ lenMax := by rw [List.length_map,lenMax_eq]; lia
theorem seq_next {a b : SDen} {σ τ : Sl} (h : a σ = some (.next τ)) : sSeq a b σ = b τ := by
  unfold sSeq; rw [h]
theorem frz_ret {s0 s1 : Slot} {xs : List PV} {r : Sl} (h : xs.length ≤ lenMax) : sSeq (sFrz 2) (sRet (vr 2)) (s0 :: s1 :: .own xs :: r) = some (.ret (.list xs)) := by
  have e : sFrz 2 (s0 :: s1 :: .own xs :: r) = some (.next (s0 :: s1 :: .val (.list xs) :: r)) := if_pos h
  rw [seq_next e]; rfl
theorem run_ret {n : Nat} {b : SDen} {args : List PV} {v : PV} (h : b (args.map .val ++ List.replicate (n - args.length) .unset) = some (.ret v)) : run n b args = some v := by
  unfold run; rw [h]
theorem sh_body {s0 s3 : Slot} {l : List Int} {i k : Nat} (h : Gd 1000 k l) (hk : k ≤ 1000) (hi : i + 1 < l.length) : sAugI 2 addI (vr 4) (bin mulV (vr 1) (idxO 2 (bin addV (vr 4) (ci 1)))) [s0,.val (.int 1),.own (l.map .int),s3,.val (.int i)] = some (.next [s0,.val (.int 1),.own ((shStep l i).map .int),s3,.val (.int i)]) := by
  have e1 := idxL_at l i (by lia)
  have e2 := idxL_at l (i + 1) hi
  rw [show ((i + 1 : Nat) : Int) = (i : Int) + 1 by lia] at e2
  have e3 := mulV_ok (x := 1) (n := 1) (by unfold Sm; decide) (h.get (i := i + 1)) (by decide) (by lia)
  have e4 := setIdx_at l i (l.getD i 0 + 1 * l.getD (i + 1) 0) (by lia)
  have e5 := le_max h.len
  simp only [sAugI,bin,vr,ci,idxO,List.getElem?_cons_zero,List.getElem?_cons_succ,e1,addV_int,e5,if_true,e2,e3,addI_int,e4,List.set_cons_zero,List.set_cons_succ]
  rfl
theorem sh_inner {s0 s3 : Slot} : ∀ (is : List Nat) (l : List Int) (k : Nat) (s4 : Slot),Gd 1000 k l → k + is.length ≤ 1000 → (∀ i ∈ is,i + 1 < l.length) →
    ∃ t,forGo take1 [4] (sAugI 2 addI (vr 4) (bin mulV (vr 1) (idxO 2 (bin addV (vr 4) (ci 1))))) (is.map fun (i : Nat) => .int (i : Int)) [s0,.val (.int 1),.own (l.map .int),s3,s4] = some (.next [s0,.val (.int 1),.own ((is.foldl shStep l).map .int),s3,t])
  | [],l,k,s4,_,_,_ => ⟨s4,rfl⟩
  | i :: r,l,k,s4,h,hk,hi => by
    simp only [List.length_cons] at hk
    obtain ⟨t,ht⟩ := sh_inner (s0 := s0) (s3 := s3) r (shStep l i) (k + 1) (.val (.int i)) (shStep_gd h) (by lia) (fun j q => by rw [shStep_length]; exact hi j (.tail _ q))
    refine ⟨t,?_⟩
    have hb := sh_body (s0 := s0) (s3 := s3) h (by lia) (hi i (.head _))
    generalize (sAugI 2 addI (vr 4) (bin mulV (vr 1) (idxO 2 (bin addV (vr 4) (ci 1))))) = B at hb ht ⊢
    simp only [List.map_cons,List.map_nil,forGo,take1,bindT,sM0,sM1,sM2,List.set_cons_zero,List.set_cons_succ,hb]
    exact ht
theorem downto_ints : ∀ (n a : Nat),n ≤ a + 1 → downto (a : Int) n = ((List.range n).map fun i => a - i).map fun (i : Nat) => PV.int (i : Int)
  | 0,a,_ => rfl
  | n + 1,a,h => by
    rw [downto,List.range_succ_eq_map,List.map_cons,List.map_cons,List.map_map]
    congr 1
    cases a with
    | zero => obtain rfl : n = 0 := by lia
              rfl
    | succ a =>
      rw [show ((a + 1 : Nat) : Int) - 1 = (a : Int) by lia,downto_ints n a (by lia)]
      rw [List.map_map,List.map_map]
      refine List.map_congr_left fun i _ => ?_
      simp only [Function.comp]
      congr 1
      lia
noncomputable def dnL (m low : Nat) : List Nat := (List.range (m - 1 - low)).map fun i => m - 2 - i
noncomputable def shG (f : List Int) : List Int := (List.range (f.length - 1)).foldl (fun l low => (dnL f.length low).foldl shStep l) f
theorem it_dn {f : List Int} {low : Nat} {s1 s2 s4 : Slot} (h : low + 1 < f.length) (hf : f.length ≤ 1000) : itDown (bin subV (una lenV (vr 0)) (ci 2)) (bin subV (vr 3) (ci 1)) [.val (pvI f),s1,s2,.val (.int low),s4] = some ((dnL f.length low).map fun (i : Nat) => .int (i : Int)) := by
  have e : okR ((f.length : Int) - 2) ((low : Int) - 1) = true := by
    unfold okR; rw [decide_eq_true (by rw [lenMax_eq]; lia),decide_eq_true (by rw [lenMax_eq]; lia)]; rfl
  simp only [itDown,bin,una,vr,ci,List.getElem?_cons_zero,List.getElem?_cons_succ,lenV_pvI,subV_int,e,if_true]
  rw [show (f.length : Int) - 2 = ((f.length - 2 : Nat) : Int) by lia,show (((f.length - 2 : Nat) : Int) - ((low : Int) - 1)).toNat = f.length - 1 - low by lia,downto_ints _ _ (by lia)]
  rfl
theorem sh_outer {f : List Int} (hf : f.length ≤ 10) : ∀ (lows : List Nat) (l : List Int) (k : Nat) (s3 s4 : Slot),Gd 1000 k l → l.length = f.length → k + lows.length * 10 ≤ 900 → (∀ w ∈ lows,w + 1 < f.length) →
    ∃ t3 t4,forGo take1 [3] (sFor (itDown (bin subV (una lenV (vr 0)) (ci 2)) (bin subV (vr 3) (ci 1))) take1 [4] (sAugI 2 addI (vr 4) (bin mulV (vr 1) (idxO 2 (bin addV (vr 4) (ci 1)))))) (lows.map fun (i : Nat) => .int (i : Int)) [.val (pvI f),.val (.int 1),.own (l.map .int),s3,s4] = some (.next [.val (pvI f),.val (.int 1),.own ((lows.foldl (fun l low => (dnL f.length low).foldl shStep l) l).map .int),t3,t4])
  | [],l,k,s3,s4,_,_,_,_ => ⟨s3,s4,rfl⟩
  | w :: r,l,k,s3,s4,h,hl,hk,hw => by
    have dl : (dnL f.length w).length ≤ 10 := by unfold dnL; rw [List.length_map,List.length_range]; lia
    simp only [List.length_cons] at hk
    obtain ⟨u,hu⟩ := sh_inner (s0 := .val (pvI f)) (s3 := .val (.int w)) (dnL f.length w) l k s4 h (by lia) (fun i q => by
      unfold dnL at q
      obtain ⟨j,hj,rfl⟩ := List.mem_map.mp q
      have := hw w (.head _)
      rw [List.mem_range] at hj
      lia)
    obtain ⟨t3,t4,ht⟩ := sh_outer hf r ((dnL f.length w).foldl shStep l) (k + 10) (.val (.int w)) u ((shFold_gd _ _ _ h).mono (Nat.le_refl _) (by lia)) (by rw [shFold_length,hl]) (by lia) (fun x q => hw x (.tail _ q))
    refine ⟨t3,t4,?_⟩
    have hb := (sFor_of (is := [4]) (b := sAugI 2 addI (vr 4) (bin mulV (vr 1) (idxO 2 (bin addV (vr 4) (ci 1))))) (it_dn (s1 := .val (.int 1)) (s2 := .own (l.map .int)) (s4 := s4) (hw w (.head _)) (by lia)) (take1_all _)).trans hu
    generalize (sFor (itDown (bin subV (una lenV (vr 0)) (ci 2)) (bin subV (vr 3) (ci 1))) take1 [4] (sAugI 2 addI (vr 4) (bin mulV (vr 1) (idxO 2 (bin addV (vr 4) (ci 1)))))) = B at hb ht ⊢
    simp only [List.map_cons,List.map_nil,forGo,take1,bindT,sM0,sM1,sM2,List.set_cons_zero,List.set_cons_succ,hb]
    exact ht
theorem e_zshift1 {f : List Int} {k : Nat} (hf : Gd 10 k f) (hk : k ≤ 800) : d_zshift [pvI f,.int 1] = some (pvI (shG f)) := by
  have fl := hf.len
  have lr : (List.range (f.length - 1)).length ≤ 10 := by rw [List.length_range]; lia
  obtain ⟨t3,t4,h⟩ := sh_outer hf.len (List.range (f.length - 1)) f k .unset .unset (hf.mono (by decide) (Nat.le_refl _)) rfl (by lia) (fun w q => by rw [List.mem_range] at q; lia)
  have hit : ∀ s1 s2 s3 s4,itUp (ci 0) (bin subV (una lenV (vr 0)) (ci 1)) [.val (pvI f),s1,s2,s3,s4] = some ((List.range (f.length - 1)).map fun (i : Nat) => .int (i : Int)) := fun s1 s2 s3 s4 => by
    have e : okR 0 ((f.length : Int) - 1) = true := by
      unfold okR; rw [decide_eq_true (by rw [lenMax_eq]; decide),decide_eq_true (by rw [lenMax_eq]; lia)]; rfl
    simp only [itUp,bin,una,vr,ci,List.getElem?_cons_zero,lenV_pvI,subV_int,e,if_true]
    rw [upto_ints,List.map_map,show ((f.length : Int) - 1 - 0).toNat = f.length - 1 by lia]
    congr 1
    refine List.map_congr_left fun i _ => ?_
    simp only [Function.comp,Int.zero_add]
  have hs := (sFor_of (is := [3]) (b := sFor (itDown (bin subV (una lenV (vr 0)) (ci 2)) (bin subV (vr 3) (ci 1))) take1 [4] (sAugI 2 addI (vr 4) (bin mulV (vr 1) (idxO 2 (bin addV (vr 4) (ci 1)))))) (hit _ _ _ _) (by simp [take1])).trans h
  have gl : ((shG f).map PV.int).length ≤ lenMax := by
    have : ∀ (ws : List Nat) (l : List Int),(ws.foldl (fun l low => (dnL f.length low).foldl shStep l) l).length = l.length := by
      intro ws
      induction ws with
      | nil => intro l; rfl
      | cons a r ih => intro l; rw [List.foldl_cons,ih,shFold_length]
    refine le_max ?_
    unfold shG
    rw [this]
    lia
  rw [d_zshift_eq]
  exact run_ret ((seq_next rfl).trans ((seq_next hs).trans (frz_ret gl)))
theorem row_inner {s0 s1 : Slot} {left : Int} {n : Nat} (hn : n ≤ 4000) (hl : Sm n left) : ∀ (bs fd : List Int) (o k : Nat) (s5 s6 : Slot),(∀ b ∈ bs,Sm n b) → o + k + bs.length ≤ fd.length → fd.length ≤ 1000 →
    ∃ t5 t6,forGo take2 [5,6] (sSet 2 (bin addV (vr 3) (vr 5)) (bin addV (idxO 2 (bin addV (vr 3) (vr 5))) (bin mulV (vr 4) (vr 6)))) (enumFrom' (k : Int) (bs.map .int)) [s0,s1,.own (fd.map .int),.val (.int o),.val (.int left),s5,s6] = some (.next [s0,s1,.own ((addAt left fd (o + k) bs).map .int),.val (.int o),.val (.int left),t5,t6])
  | [],fd,o,k,s5,s6,_,_,_ => ⟨s5,s6,rfl⟩
  | b :: bs,fd,o,k,s5,s6,hb,hk,hf => by
    simp only [List.length_cons] at hk
    obtain ⟨t5,t6,h⟩ := row_inner (s0 := s0) (s1 := s1) hn hl bs (fd.set (o + k) (fd.getD (o + k) 0 + left * b)) o (k + 1) (.val (.int k)) (.val (.int b)) (fun x q => hb x (.tail _ q)) (by simp; lia) (by simpa using hf)
    refine ⟨t5,t6,?_⟩
    have e1 := idxL_at fd (o + k) (by lia)
    have e2 := mulV_ok hl (hb b (.head _)) (by lia) (by lia)
    have e3 := setIdx_at fd (o + k) (fd.getD (o + k) 0 + left * b) (by lia)
    have e4 := le_max hf
    have e6 : ((o + k : Nat) : Int) = (o : Int) + (k : Int) := by lia
    rw [e6] at e1 e3
    have hB : (sSet 2 (bin addV (vr 3) (vr 5)) (bin addV (idxO 2 (bin addV (vr 3) (vr 5))) (bin mulV (vr 4) (vr 6)))) [s0,s1,.own (fd.map .int),.val (.int o),.val (.int left),.val (.int k),.val (.int b)] = some (.next [s0,s1,.own ((fd.set (o + k) (fd.getD (o + k) 0 + left * b)).map .int),.val (.int o),.val (.int left),.val (.int k),.val (.int b)]) := by
      simp only [sSet,idxO,bin,vr,List.getElem?_cons_zero,List.getElem?_cons_succ,addV_int,e1,e2,e3,e4,if_true]
      rfl
    generalize (sSet 2 (bin addV (vr 3) (vr 5)) (bin addV (idxO 2 (bin addV (vr 3) (vr 5))) (bin mulV (vr 4) (vr 6)))) = B at hB h ⊢
    rw [addAt,show o + k + 1 = o + (k + 1) by lia]
    simp only [List.map_cons,List.map_nil,enumFrom',forGo,take2_tup,bindT,sM0,sM1,sM2,List.set_cons_zero,List.set_cons_succ,hB]
    exact h
noncomputable def chC : Nat → List Int
  | 0 => [1]
  | 1 => [1,1]
  | 2 => [1,2,1]
  | 3 => [1,3,3,1]
  | _ => [1,4,6,4,1]
theorem chC_ok : ∀ n : Nat,n ≤ 4 → d_law_choices [.int n] = some (pvI (chC n)) ∧ (chC n).length = n + 1 ∧ ∀ b ∈ chC n,Sm 24 b
  | 0,_ => ⟨ch_0,rfl,by unfold Sm; decide⟩
  | 1,_ => ⟨ch_1,rfl,by unfold Sm; decide⟩
  | 2,_ => ⟨ch_2,rfl,by unfold Sm; decide⟩
  | 3,_ => ⟨ch_3,rfl,by unfold Sm; decide⟩
  | 4,_ => ⟨ch_4,rfl,by unfold Sm; decide⟩
  | n + 5,h => by lia
noncomputable def rowGo (n : Nat) : List Int → Nat → List Int → List Int
  | fd,_,[] => fd
  | fd,i,a :: as => rowGo n (addAt a fd i (chC (n - i))) (i + 1) as
noncomputable def rowG (f : List Int) : List Int := rowGo (f.length - 1) (List.replicate f.length 0) 0 f
theorem rowGo_length (n : Nat) : ∀ (as fd : List Int) (i : Nat),(rowGo n fd i as).length = fd.length
  | [],_,_ => rfl
  | a :: as,fd,i => by rw [rowGo,rowGo_length n as,addAt_length]
theorem row_outer {s0 : Slot} {n : Nat} (hn : n ≤ 4) : ∀ (as fd : List Int) (k : Nat) (s3 s4 s5 s6 : Slot),(∀ x ∈ as,Sm 24 x) → k + as.length = n + 1 → fd.length = n + 1 →
    ∃ t3 t4 t5 t6,forGo take2 [3,4] (sFor (itEnum (call d_law_choices [(bin subV (vr 1) (vr 3))])) take2 [5,6] (sSet 2 (bin addV (vr 3) (vr 5)) (bin addV (idxO 2 (bin addV (vr 3) (vr 5))) (bin mulV (vr 4) (vr 6))))) (enumFrom' (k : Int) (as.map .int)) [s0,.val (.int n),.own (fd.map .int),s3,s4,s5,s6] = some (.next [s0,.val (.int n),.own ((rowGo n fd k as).map .int),t3,t4,t5,t6])
  | [],fd,k,s3,s4,s5,s6,_,_,_ => ⟨s3,s4,s5,s6,rfl⟩
  | a :: as,fd,k,s3,s4,s5,s6,ha,hk,hf => by
    simp only [List.length_cons] at hk
    obtain ⟨c1,c2,c3⟩ := chC_ok (n - k) (by lia)
    obtain ⟨u5,u6,hin⟩ := row_inner (s0 := s0) (s1 := .val (.int n)) (by decide) (ha a (.head _)) (chC (n - k)) fd k 0 s5 s6 c3 (by lia) (by lia)
    obtain ⟨t3,t4,t5,t6,h⟩ := row_outer (s0 := s0) hn as (addAt a fd k (chC (n - k))) (k + 1) (.val (.int k)) (.val (.int a)) u5 u6 (fun x q => ha x (.tail _ q)) (by lia) (by rw [addAt_length,hf])
    refine ⟨t3,t4,t5,t6,?_⟩
    have hit : itEnum (call d_law_choices [(bin subV (vr 1) (vr 3))]) [s0,.val (.int n),.own (fd.map .int),.val (.int k),.val (.int a),s5,s6] = some (enumFrom' 0 ((chC (n - k)).map .int)) := by
      have e : (n : Int) - (k : Int) = ((n - k : Nat) : Int) := by lia
      simp only [itEnum,call,evs,bin,vr,List.getElem?_cons_zero,List.getElem?_cons_succ,subV_int,e,c1]
      rfl
    have hb := (sFor_of (is := [5,6]) (b := sSet 2 (bin addV (vr 3) (vr 5)) (bin addV (idxO 2 (bin addV (vr 3) (vr 5))) (bin mulV (vr 4) (vr 6)))) hit (enum_all _ _)).trans hin
    generalize (sFor (itEnum (call d_law_choices [(bin subV (vr 1) (vr 3))])) take2 [5,6] (sSet 2 (bin addV (vr 3) (vr 5)) (bin addV (idxO 2 (bin addV (vr 3) (vr 5))) (bin mulV (vr 4) (vr 6))))) = B at hb h ⊢
    have e5 : ((k : Int) + 1) = ((k + 1 : Nat) : Int) := by lia
    rw [rowGo]
    simp only [List.map_cons,List.map_nil,enumFrom',forGo,take2_tup,bindT,sM0,sM1,sM2,List.set_cons_zero,List.set_cons_succ,hb,e5]
    exact h
theorem e_law_row {f : List Int} (h0 : f ≠ []) (hf : f.length ≤ 5) (sf : ∀ x ∈ f,Sm 24 x) : d_law_row [pvI f] = some (pvI (rowG f)) := by
  have fl := List.length_pos_iff.mpr h0
  obtain ⟨t3,t4,t5,t6,h⟩ := row_outer (s0 := .val (pvI f)) (n := f.length - 1) (by lia) f (List.replicate f.length 0) 0 .unset .unset .unset .unset sf (by lia) (by rw [List.length_replicate]; lia)
  have hm : mulV (.list [.int 0]) (.int (f.length : Int)) = some (.list ((List.replicate f.length (0 : Int)).map .int)) := by
    simp only [mulV,List.map_replicate,Int.natAbs_natCast,Int.toNat_natCast]
    rw [if_pos (by rw [lenMax_eq]; lia)]
  have hT : sTup [(1,false),(2,true)] [(bin subV (una lenV (vr 0)) (ci 1)),(bin mulV (lst [(ci 0)]) (una lenV (vr 0)))] [.val (pvI f),.unset,.unset,.unset,.unset,.unset,.unset] = some (.next [.val (pvI f),.val (.int ((f.length - 1 : Nat) : Int)),.own ((List.replicate f.length (0 : Int)).map .int),.unset,.unset,.unset,.unset]) := by
    have e : (f.length : Int) - 1 = ((f.length - 1 : Nat) : Int) := by lia
    simp only [sTup,evs,bin,una,vr,ci,lst,List.getElem?_cons_zero,lenV_pvI,subV_int,hm,e,sM0,sM1,sM2,List.set_cons_zero,List.set_cons_succ]
  have hs := (sFor_of (is := [3,4]) (b := sFor (itEnum (call d_law_choices [(bin subV (vr 1) (vr 3))])) take2 [5,6] (sSet 2 (bin addV (vr 3) (vr 5)) (bin addV (idxO 2 (bin addV (vr 3) (vr 5))) (bin mulV (vr 4) (vr 6))))) (it := itEnum (vr 0)) rfl (enum_all _ _)).trans h
  have gl : ((rowG f).map PV.int).length ≤ lenMax := le_max (by unfold rowG; rw [rowGo_length,List.length_replicate]; lia)
  rw [d_law_row_eq]
  exact run_ret ((seq_next hT).trans ((seq_next hs).trans (frz_ret gl)))
theorem Bd.sm {x : Int} (h : Bd x) : Sm 24 x := by unfold Bd at h; unfold Sm; lia
theorem mem2 {a b : Int} {P : Int → Prop} (ha : P a) (hb : P b) : ∀ x ∈ [a,b],P x := by simp [ha,hb]
theorem mem3 {a b c : Int} {P : Int → Prop} (ha : P a) (hb : P b) (hc : P c) : ∀ x ∈ [a,b,c],P x := by simp [ha,hb,hc]
theorem mem4 {a b c d : Int} {P : Int → Prop} (ha : P a) (hb : P b) (hc : P c) (hd : P d) : ∀ x ∈ [a,b,c,d],P x := by simp [ha,hb,hc,hd]
theorem mem5 {a b c d e : Int} {P : Int → Prop} (ha : P a) (hb : P b) (hc : P c) (hd : P d) (he : P e) : ∀ x ∈ [a,b,c,d,e],P x := by simp [ha,hb,hc,hd,he]
theorem shG_2 (a b : Int) : shG [a,b] = shL [a,b] := by
  simp [shG,dnL,List.range,List.range.loop,shStep,shL_2,shL_3,shL_4,shL_5]
  try omega
theorem sh_2 {a b : Int} (ha : Bd a) (hb : Bd b) : d_zshift [pvI [a,b],.int 1] = some (pvI (shL [a,b])) := by
  rw [← shG_2]; exact e_zshift1 (k := 24) ⟨Nat.le_of_ble_eq_true rfl,mem2 ha.sm hb.sm⟩ (by decide)
theorem rowG_2 (a b : Int) : rowG [a,b] = rowL [a,b] := by
  simp [rowG,rowGo,addAt,chC,rowL_2,rowL_3,rowL_4,rowL_5]
  try omega
theorem row_2 {a b : Int} (ha : Bd a) (hb : Bd b) : d_law_row [pvI [a,b]] = some (pvI (rowL [a,b])) := by
  rw [← rowG_2]; exact e_law_row (List.cons_ne_nil _ _) (Nat.le_of_ble_eq_true rfl) (mem2 ha.sm hb.sm)
theorem shG_3 (a b c : Int) : shG [a,b,c] = shL [a,b,c] := by
  simp [shG,dnL,List.range,List.range.loop,shStep,shL_2,shL_3,shL_4,shL_5]
  try lia
theorem sh_3 {a b c : Int} (ha : Bd a) (hb : Bd b) (hc : Bd c) : d_zshift [pvI [a,b,c],.int 1] = some (pvI (shL [a,b,c])) := by
  rw [← shG_3]; exact e_zshift1 (k := 24) ⟨Nat.le_of_ble_eq_true rfl,mem3 ha.sm hb.sm hc.sm⟩ (by decide)
theorem rowG_3 (a b c : Int) : rowG [a,b,c] = rowL [a,b,c] := by
  simp [rowG,rowGo,addAt,chC,rowL_2,rowL_3,rowL_4,rowL_5]
  try lia
theorem row_3 {a b c : Int} (ha : Bd a) (hb : Bd b) (hc : Bd c) : d_law_row [pvI [a,b,c]] = some (pvI (rowL [a,b,c])) := by
  rw [← rowG_3]; exact e_law_row (List.cons_ne_nil _ _) (Nat.le_of_ble_eq_true rfl) (mem3 ha.sm hb.sm hc.sm)
theorem shG_4 (a b c d : Int) : shG [a,b,c,d] = shL [a,b,c,d] := by
  simp [shG,dnL,List.range,List.range.loop,shStep,shL_2,shL_3,shL_4,shL_5]
  try lia
theorem sh_4 {a b c d : Int} (ha : Bd a) (hb : Bd b) (hc : Bd c) (hd : Bd d) : d_zshift [pvI [a,b,c,d],.int 1] = some (pvI (shL [a,b,c,d])) := by
  rw [← shG_4]; exact e_zshift1 (k := 24) ⟨Nat.le_of_ble_eq_true rfl,mem4 ha.sm hb.sm hc.sm hd.sm⟩ (by decide)
theorem rowG_4 (a b c d : Int) : rowG [a,b,c,d] = rowL [a,b,c,d] := by
  simp [rowG,rowGo,addAt,chC,rowL_2,rowL_3,rowL_4,rowL_5]
  try lia
theorem row_4 {a b c d : Int} (ha : Bd a) (hb : Bd b) (hc : Bd c) (hd : Bd d) : d_law_row [pvI [a,b,c,d]] = some (pvI (rowL [a,b,c,d])) := by
  rw [← rowG_4]; exact e_law_row (List.cons_ne_nil _ _) (Nat.le_of_ble_eq_true rfl) (mem4 ha.sm hb.sm hc.sm hd.sm)
theorem shG_5 (a b c d e : Int) : shG [a,b,c,d,e] = shL [a,b,c,d,e] := by
  simp [shG,dnL,List.range,List.range.loop,shStep,shL_2,shL_3,shL_4,shL_5]
  try lia
theorem sh_5 {a b c d e : Int} (ha : Bd a) (hb : Bd b) (hc : Bd c) (hd : Bd d) (he : Bd e) : d_zshift [pvI [a,b,c,d,e],.int 1] = some (pvI (shL [a,b,c,d,e])) := by
  rw [← shG_5]; exact e_zshift1 (k := 24) ⟨Nat.le_of_ble_eq_true rfl,mem5 ha.sm hb.sm hc.sm hd.sm he.sm⟩ (by decide)
theorem rowG_5 (a b c d e : Int) : rowG [a,b,c,d,e] = rowL [a,b,c,d,e] := by
  simp [rowG,rowGo,addAt,chC,rowL_2,rowL_3,rowL_4,rowL_5]
  try lia
theorem row_5 {a b c d e : Int} (ha : Bd a) (hb : Bd b) (hc : Bd c) (hd : Bd d) (he : Bd e) : d_law_row [pvI [a,b,c,d,e]] = some (pvI (rowL [a,b,c,d,e])) := by
  rw [← rowG_5]; exact e_law_row (List.cons_ne_nil _ _) (Nat.le_of_ble_eq_true rfl) (mem5 ha.sm hb.sm hc.sm hd.sm he.sm)
end Mine
end
section
open PySem PySem.W PyProof.Rows
set_option exponentiation.threshold 10000
set_option maxRecDepth 10000
namespace Mine
noncomputable def lnV (x : Int × Int) : PV := .tup [.int x.1,.int x.2]
noncomputable def linesOf (parts : List (List Int)) : List (Int × Int) := (parts.filter fun l => (l.length : Int) == 2).map fun l => (0 - l.getD 0 0,l.getD 1 0)
theorem compGo_gen {α : Type} {fr : Sl} {t : TDen} {e : Den} {inj : α → PV} {q : α → Bool} {g : α → PV} : ∀ (l : List α),(∀ x ∈ l,t (.val (inj x) :: fr) = some (q x)) → (∀ x ∈ l,q x = true → e (.val (inj x) :: fr) = some (g x)) → compGo take1 fr t e (l.map inj) = some ((l.filter q).map g)
  | [],_,_ => rfl
  | a :: r,ht,he => by
    have ih := compGo_gen r (fun x q => ht x (.tail _ q)) (fun x q => he x (.tail _ q))
    simp only [List.map_cons,compGo,take1,List.map_nil,List.cons_append,List.nil_append]
    rw [ht a (.head _)]
    cases z : q a with
    | false => simp only [ih,List.filter_cons,z]; rfl
    | true => simp only [he a (.head _) z,ih,List.filter_cons,z]; rfl
theorem compGo_lines {fr : Sl} {t : TDen} {e : Den} {q : Int × Int → Bool} {g : Int × Int → Int} : ∀ (l : List (Int × Int)),(∀ x ∈ l,t (.val (.int x.1) :: .val (.int x.2) :: fr) = some (q x)) → (∀ x ∈ l,e (.val (.int x.1) :: .val (.int x.2) :: fr) = some (.int (g x))) → compGo take2 fr t e (l.map lnV) = some (((l.filter q).map g).map .int)
  | [],_,_ => rfl
  | a :: r,ht,he => by
    have ih := compGo_lines r (fun x q => ht x (.tail _ q)) (fun x q => he x (.tail _ q))
    simp only [List.map_cons,compGo,lnV,take2,List.map_nil,List.cons_append,List.nil_append]
    rw [ht a (.head _)]
    cases z : q a with
    | false => simp [ih,List.filter_cons,z]
    | true =>
      dsimp only
      rw [he a (.head _),ih]
      simp [List.filter_cons,z]
noncomputable def q0 (x : Int × Int) : Bool := decide (0 < x.1) && decide (x.1 < x.2)
noncomputable def q1 (x : Int × Int) : Bool := decide (0 < 2 * x.1) && decide (2 * x.1 < x.2)
noncomputable def q2 (x : Int × Int) : Bool := decide (x.2 < 2 * x.1) && decide (2 * x.1 < 2 * x.2)
noncomputable def q3 (x : Int × Int) : Bool := 2 * x.1 == x.2
noncomputable def q4 (x : Int × Int) : Bool := decide (0 < x.1) && decide (x.1 ≤ x.2)
noncomputable def cntL (q : Int × Int → Bool) (l : List (Int × Int)) : Nat := (l.filter q).length
noncomputable def dist (l : List Int) : Nat := (firstMet (fun i => l.getD i 0) l.length).length
noncomputable def unlL (l : List (Int × Int)) : Nat := dist ((l.filter q4).map fun x => (x.1 * 60).fdiv x.2)
structure LnOk (x : Int × Int) : Prop where
  a : Sm 10 x.1
  b : Sm 10 x.2
  c : x.2 ≠ 0
theorem two_sm : Sm 10 2 := by unfold Sm; decide
theorem lines_all (l : List (Int × Int)) : (l.map lnV).all (fun x => (take2 x).isSome) = true := by
  rw [List.all_eq_true]; intro x hx; obtain ⟨y,_,rfl⟩ := List.mem_map.mp hx; rfl
theorem cnt_lines {σ : Sl} {l : List (Int × Int)} {t : TDen} {q : Int × Int → Bool} (h6 : σ[6]? = some (.val (.list (l.map lnV)))) (hl : l.length ≤ 1000) (ht : ∀ x ∈ l,t [.val (.int x.1),.val (.int x.2)] = some (q x)) : una lenV (comp (itl (vr 6)) take2 [] t (ci 1)) σ = some (.int (cntL q l)) := by
  have hc := comp_eq (it := itl (vr 6)) (tk := take2) (fr := []) (t := t) (e := ci 1) (σ := σ) (xs := l.map lnV) (by simp only [itl,vr,h6]) (by rw [List.length_map,lenMax_eq]; lia) (lines_all l) (F := []) rfl (compGo_lines (g := fun _ => 1) l ht fun _ _ => rfl)
  rw [una_some hc]
  simp [lenV,cntL]
theorem tq0 {x : Int × Int} : tchain ltV ltV (ci 0) (vr 0) (vr 1) [.val (.int x.1),.val (.int x.2)] = some (q0 x) := by
  unfold q0
  cases h : decide (0 < x.1) <;> simp [tchain,ci,vr,ltV,h]
theorem tq4 {x : Int × Int} : tchain ltV leV (ci 0) (vr 0) (vr 1) [.val (.int x.1),.val (.int x.2)] = some (q4 x) := by
  unfold q4
  cases h : decide (0 < x.1) <;> simp [tchain,ci,vr,ltV,leV,h]
theorem tq1 {x : Int × Int} (k : LnOk x) : tchain ltV ltV (ci 0) (bin mulV (ci 2) (vr 0)) (vr 1) [.val (.int x.1),.val (.int x.2)] = some (q1 x) := by
  have e := mulV_ok two_sm k.a (by decide) (by decide)
  unfold q1
  cases h : decide (0 < 2 * x.1) <;> simp only [tchain,bin,ci,vr,ltV,List.getElem?_cons_zero,List.getElem?_cons_succ,e,h,Bool.false_and,Bool.true_and]
theorem tq2 {x : Int × Int} (k : LnOk x) : tchain ltV ltV (vr 1) (bin mulV (ci 2) (vr 0)) (bin mulV (ci 2) (vr 1)) [.val (.int x.1),.val (.int x.2)] = some (q2 x) := by
  have e := mulV_ok two_sm k.a (by decide) (by decide)
  have e' := mulV_ok two_sm k.b (by decide) (by decide)
  unfold q2
  cases h : decide (x.2 < 2 * x.1) <;> simp only [tchain,bin,ci,vr,ltV,List.getElem?_cons_zero,List.getElem?_cons_succ,e,e',h,Bool.false_and,Bool.true_and]
theorem tq3 {x : Int × Int} (k : LnOk x) : tcmp eqV (bin mulV (ci 2) (vr 0)) (vr 1) [.val (.int x.1),.val (.int x.2)] = some (q3 x) := by
  have e := mulV_ok two_sm k.a (by decide) (by decide)
  unfold q3
  simp only [tcmp,bin,ci,vr,List.getElem?_cons_zero,List.getElem?_cons_succ,e,eqV_int]
theorem unl_lines {σ : Sl} {l : List (Int × Int)} (h6 : σ[6]? = some (.val (.list (l.map lnV)))) (hl : l.length ≤ 1000) (ht : ∀ x ∈ l,LnOk x) : una lenV (una setV (comp (itl (vr 6)) take2 [] (tchain ltV leV (ci 0) (vr 0) (vr 1)) (bin fdivV (bin mulV (vr 0) (ci 60)) (vr 1)))) σ = some (.int (unlL l)) := by
  have hc := comp_eq (it := itl (vr 6)) (tk := take2) (fr := []) (t := tchain ltV leV (ci 0) (vr 0) (vr 1)) (e := bin fdivV (bin mulV (vr 0) (ci 60)) (vr 1)) (σ := σ) (xs := l.map lnV) (by simp only [itl,vr,h6]) (by rw [List.length_map,lenMax_eq]; lia) (lines_all l) (F := []) rfl (compGo_lines (q := q4) (g := fun x => (x.1 * 60).fdiv x.2) l (fun x _ => tq4) fun x hx => by
    have k := ht x hx
    have s60 : Sm 10 60 := by unfold Sm; decide
    have e := mulV_ok k.a s60 (by decide) (by decide)
    simp only [bin,ci,vr,List.getElem?_cons_zero,List.getElem?_cons_succ,e,fdivV,k.c,if_false])
  have hf : ((l.filter q4).map fun x => (x.1 * 60).fdiv x.2).length ≤ 1000 := by
    rw [List.length_map]; exact Nat.le_trans (List.length_filter_le _ _) hl
  have hs := una_some (f := setV) hc
  have : una setV (comp (itl (vr 6)) take2 [] (tchain ltV leV (ci 0) (vr 0) (vr 1)) (bin fdivV (bin mulV (vr 0) (ci 60)) (vr 1))) σ = some (.setn (unlL l)) := by
    rw [hs]
    unfold setV
    dsimp only
    rw [intsOf_map]
    dsimp only
    rw [if_pos hf]
    rfl
  rw [una_some this]
  rfl
theorem lines_of {σ : Sl} {parts : List (List Int)} (h2 : σ[2]? = some (.val (.list (parts.map pvI)))) (hl : parts.length ≤ 1000) : comp (itv (vr 2)) take1 [] (tcmp eqV (una lenV (vr 0)) (ci 2)) (tpl [(bin subV (ci 0) (idx (vr 0) (ci 0))),(idx (vr 0) (ci 1))]) σ = some (.list ((linesOf parts).map lnV)) := by
  refine (comp_eq (xs := parts.map pvI) (by simp only [itv,vr,h2,seqV]) (by rw [List.length_map,lenMax_eq]; lia) (take1_all _) (F := []) rfl (compGo_gen (q := fun l => (l.length : Int) == 2) (g := fun l => lnV (0 - l.getD 0 0,l.getD 1 0)) parts (fun x _ => by
    simp only [tcmp,una,vr,ci,List.getElem?_cons_zero,lenV_pvI,eqV_int]) fun x _ hx => by
    have hx2 : (x.length : Int) = 2 := by simpa using hx
    have i0 := getD_idx x 0 (by lia)
    have i1 := getD_idx x 1 (by lia)
    rw [show ((0 : Nat) : Int) = 0 from rfl] at i0
    rw [show ((1 : Nat) : Int) = 1 from rfl] at i1
    simp only [tpl,evs,idx_app,bin,vr,ci,List.getElem?_cons_zero,i0,i1,subV_int,lnV])).trans ?_
  unfold linesOf
  rw [List.map_map]
  rfl
theorem prod_loop {s0 s1 s2 : Slot} {r : List Slot} : ∀ (parts : List (List Int)) (acc : List Int) (n : Nat) (s4 : Slot),(∀ p ∈ parts,p ≠ [] ∧ Gd 10 10 p) → acc ≠ [] → Gd 100 n acc → 10 ≤ n → acc.length + 10 * parts.length ≤ 40 → (n + 400) * 2 ^ parts.length ≤ 4000 →
    ∃ t4,forGo take1 [4] (sAsg 3 (call d_zmul [(vr 3),(vr 4)])) (parts.map pvI) (s0 :: s1 :: s2 :: .val (pvI acc) :: s4 :: r) = some (.next (s0 :: s1 :: s2 :: .val (pvI (parts.foldl mulL acc)) :: t4 :: r))
  | [],acc,n,s4,_,_,_,_,_,_ => ⟨s4,rfl⟩
  | p :: ps,acc,n,s4,hp,ha0,ha,hn,hl,hN => by
    have h1 := hp p (.head _)
    have al := List.length_pos_iff.mpr ha0
    have pl := List.length_pos_iff.mpr h1.1
    have pl2 := h1.2.len
    simp only [List.length_cons,Nat.pow_succ] at hl hN
    have h2p : 1 ≤ 2 ^ ps.length := Nat.pow_pos (by decide)
    have hN2 : n + 400 ≤ 4000 := by
      have : (n + 400) * 1 ≤ (n + 400) * (2 ^ ps.length * 2) := Nat.mul_le_mul (Nat.le_refl _) (by lia)
      lia
    have e := e_zmul (n := n) ha (h1.2.mono (by decide) hn) (by lia) ha0 h1.1
    have g := mulL_gd (ka := acc.length) (kb := p.length) ⟨Nat.le_refl _,ha.sm⟩ ⟨Nat.le_refl _,(h1.2.mono (Nat.le_refl _) hn).sm⟩
    have hmul : acc.length * p.length ≤ 40 * 10 := Nat.mul_le_mul (by lia) (by lia)
    have ml := mulL_length acc p
    obtain ⟨t4,h⟩ := prod_loop (s0 := s0) (s1 := s1) (s2 := s2) (r := r) ps (mulL acc p) (n + n + 400) (.val (pvI p)) (fun x q => hp x (.tail _ q)) (by
      intro z; rw [z] at ml; simp only [List.length_nil] at ml; lia) (g.mono (by lia) (by lia)) (by lia) (by rw [ml]; lia) (by
      have : n + n + 400 + 400 = (n + 400) * 2 := by lia
      rw [this,Nat.mul_assoc,Nat.mul_comm 2]; exact hN)
    refine ⟨t4,?_⟩
    simp only [List.map_cons,forGo,take1,bindT,run,sSeq,sRet,sAsg,sTup,sUnp,sIf,sNop,sOwn,sFrz,sDrop,sM0,sM1,sM2,evs,bin,una,vr,ci,cst,ifx,tcmp,tand,tor,tnot,tval,vtst,lst,tpl,idx_app,call,List.map_cons,List.map_nil,List.length_cons,List.length_nil,List.cons_append,List.nil_append,List.getElem?_cons_zero,List.getElem?_cons_succ,List.set_cons_zero,List.set_cons_succ,List.replicate,List.replicate_zero,List.replicate_succ,Nat.reduceAdd,Nat.reduceSub,if_true,decide_true,decide_false,e,List.foldl_cons]
    exact h
structure HalfOk (one : List Int) (many c : Nat) : Prop where
  ok : ∃ r,d_law_row [pvI one] = some (pvI r) ∧ d_zshift [pvI one.reverse,.int 1] = some (pvI r.reverse) ∧ d_law_changes [pvI r] = some (.int c) ∧ d_law_between [pvI one,pvI r] = some (.bool true)
  ge : many ≤ c
  par : (c - many) % 2 = 0
theorem idxL_0 (x : PV) (r : List PV) : idxL (x :: r) 0 = some x := rfl
theorem half_step {one : List Int} {many c : Nat} (h : HalfOk one many c) {s0 s1 s2 s3 s4 s5 s6 s7 s8 s9 s13 : Slot} {more : List PV} {r : List Slot} (hm : more.length ≤ 10) :
    ∃ t13,(sSeq (sAsg 13 (call d_law_row [(vr 11)]))
  (sSeq (sIf (tcmp neV (una revV (call d_zshift [(una revV (vr 11)),(ci 1)])) (vr 13))
  (sRet (cst (.bool false)))
  sNop)
  (sSeq (sApp 10 (call d_law_changes [(vr 13)]))
  (sIf (tor (tcmp ltV (idxO 10 (una negV (ci 1))) (vr 12)) (tor (tcmp neV (bin modV (bin subV (idxO 10 (una negV (ci 1))) (vr 12)) (ci 2)) (ci 0)) (tnot (tval (call d_law_between [(vr 11),(vr 13)])))))
  (sRet (cst (.bool false)))
  sNop)))) (s0 :: s1 :: s2 :: s3 :: s4 :: s5 :: s6 :: s7 :: s8 :: s9 :: .own more :: .val (pvI one) :: .val (.int many) :: s13 :: r) =
    some (.next (s0 :: s1 :: s2 :: s3 :: s4 :: s5 :: s6 :: s7 :: s8 :: s9 :: .own (more ++ [.int c]) :: .val (pvI one) :: .val (.int many) :: t13 :: r)) := by
  obtain ⟨⟨w,e1,e2,e3,e4⟩,ge,par⟩ := h
  refine ⟨.val (pvI w),?_⟩
  have n1 : neV (pvI w) (pvI w) = some false := by
    show (eqV (pvI w) (pvI w)).map (! ·) = _
    rw [eqV_pvI]; simp
  have l1 : more.length < lenMax := by rw [lenMax_eq]; lia
  have l2 : (more ++ [PV.int c]).length ≤ lenMax := by rw [lenMax_eq]; simp; lia
  have i1 := idxL_m1 more (.int c)
  have d1 : decide ((c : Int) < (many : Int)) = false := decide_eq_false (by lia)
  have m1 : ((c : Int) - (many : Int)).fmod 2 = 0 := by
    rw [Int.fmod_eq_emod_of_nonneg _ (by decide)]; lia
  simp only [run,sSeq,sRet,sAsg,sTup,sUnp,sIf,sNop,sOwn,sFrz,sDrop,sM0,sM1,sM2,evs,bin,una,vr,ci,cst,ifx,tcmp,tand,tor,tnot,tval,vtst,lst,tpl,idx_app,call,List.map_cons,List.map_nil,List.length_cons,List.length_nil,List.cons_append,List.nil_append,List.getElem?_cons_zero,List.getElem?_cons_succ,List.set_cons_zero,List.set_cons_succ,List.replicate,List.replicate_zero,List.replicate_succ,Nat.reduceAdd,Nat.reduceSub,if_true,decide_true,decide_false,e1,revV_pvI,e2,List.reverse_reverse,n1,sApp,e3,l1,idxO,negV,l2,i1,ltV,d1,subV_int,modV_2,m1,neV_int,beq_self_eq_true,Bool.not_true,e4]
theorem law_of {parts : List (List Int)} {f fl fh : List Int} {c0 c1 c2 : Nat} (hp : ∀ p ∈ parts,p ≠ [] ∧ Gd 10 10 p) (hpl : parts.length ≤ 3) (hf : parts.foldl mulL [1] = f)
    (hleft : ∀ s0 s1 s2 s4 r,comp (itEnum (vr 3)) take2 [5] ttrue (bin mulV (vr 1) (bin powV (ci 2) (bin subV (vr 2) (vr 0)))) (s0 :: s1 :: s2 :: .val (pvI f) :: s4 :: .val (.int ((f.length : Int) - 1)) :: r) = some (pvI fl))
    (hsh : d_zshift [pvI fl,.int 1] = some (pvI fh)) (hln : ∀ x ∈ linesOf parts,LnOk x)
    (h0 : HalfOk f (cntL q0 (linesOf parts)) c0) (h1 : HalfOk fl (cntL q1 (linesOf parts)) c1) (h2 : HalfOk fh (cntL q2 (linesOf parts)) c2)
    (hgap : c1 + c2 + cntL q3 (linesOf parts) ≤ c0) (hpar : (c0 - (c1 + c2 + cntL q3 (linesOf parts))) % 2 = 0)
    (hcnt : d_count_roots [pvI f,.tup [.int 0,.int 1],.tup [.int 1,.int 1]] = some (.int (unlL (linesOf parts)))) :
    lawOf (.list (parts.map pvI)) = some (.bool true) := by
  have hll : (linesOf parts).length ≤ 1000 := by
    unfold linesOf; rw [List.length_map]; have := List.length_filter_le (fun l : List Int => (l.length : Int) == 2) parts; lia
  unfold lawOf
  have hfr : ([.unset,.unset,.val (.list (parts.map pvI)),.val (.list [.int 1])] ++ List.replicate (n_law.length - 4) .unset : List Slot) = .unset :: .unset :: .val (.list (parts.map pvI)) :: .val (pvI [1]) :: .unset :: List.replicate 11 .unset := rfl
  rw [hfr]
  obtain ⟨t4,hloop⟩ := prod_loop (s0 := .unset) (s1 := .unset) (s2 := .val (.list (parts.map pvI))) (r := List.replicate 11 .unset) parts [1] 10 .unset hp (by simp) ⟨by simp,fun x hx => by rw [List.mem_singleton] at hx; rw [hx]; unfold Sm; decide⟩ (Nat.le_refl _) (by simp; lia) (by
    have : 2 ^ parts.length ≤ 2 ^ 3 := Nat.pow_le_pow_right (by decide) hpl
    have : (10 + 400) * 2 ^ parts.length ≤ (10 + 400) * 2 ^ 3 := Nat.mul_le_mul (Nat.le_refl _) this
    lia)
  rw [hf] at hloop
  have hsf := (sFor_of (it := itv (vr 2)) (is := [4]) (b := sAsg 3 (call d_zmul [(vr 3),(vr 4)])) (σ := .unset :: .unset :: .val (.list (parts.map pvI)) :: .val (pvI [1]) :: .unset :: List.replicate 11 .unset) (xs := parts.map pvI) rfl (take1_all _)).trans hloop
  have hlines := lines_of (σ := [.unset,.unset,.val (.list (parts.map pvI)),.val (pvI f),t4,.unset,.unset,.unset,.unset,.unset,.unset,.unset,.unset,.unset,.unset,.unset]) (parts := parts) rfl (by lia)
  have hlf := hleft .unset .unset (.val (.list (parts.map pvI))) t4 [.val (.list ((linesOf parts).map lnV)),.unset,.unset,.unset,.unset,.unset,.unset,.unset,.unset,.unset]
  have k0 : ∀ σ : Sl,σ[6]? = some (.val (.list ((linesOf parts).map lnV))) → una lenV (comp (itl (vr 6)) take2 [] (tchain ltV ltV (ci 0) (vr 0) (vr 1)) (ci 1)) σ = some (.int (cntL q0 (linesOf parts))) := fun σ h => cnt_lines h hll fun x _ => tq0
  have k1 : ∀ σ : Sl,σ[6]? = some (.val (.list ((linesOf parts).map lnV))) → una lenV (comp (itl (vr 6)) take2 [] (tchain ltV ltV (ci 0) (bin mulV (ci 2) (vr 0)) (vr 1)) (ci 1)) σ = some (.int (cntL q1 (linesOf parts))) := fun σ h => cnt_lines h hll fun x hx => tq1 (hln x hx)
  have k2 : ∀ σ : Sl,σ[6]? = some (.val (.list ((linesOf parts).map lnV))) → una lenV (comp (itl (vr 6)) take2 [] (tchain ltV ltV (vr 1) (bin mulV (ci 2) (vr 0)) (bin mulV (ci 2) (vr 1))) (ci 1)) σ = some (.int (cntL q2 (linesOf parts))) := fun σ h => cnt_lines h hll fun x hx => tq2 (hln x hx)
  have k3 : ∀ σ : Sl,σ[6]? = some (.val (.list ((linesOf parts).map lnV))) → una lenV (comp (itl (vr 6)) take2 [] (tcmp eqV (bin mulV (ci 2) (vr 0)) (vr 1)) (ci 1)) σ = some (.int (cntL q3 (linesOf parts))) := fun σ h => cnt_lines h hll fun x hx => tq3 (hln x hx)
  have k4 : ∀ σ : Sl,σ[6]? = some (.val (.list ((linesOf parts).map lnV))) → una lenV (una setV (comp (itl (vr 6)) take2 [] (tchain ltV leV (ci 0) (vr 0) (vr 1)) (bin fdivV (bin mulV (vr 0) (ci 60)) (vr 1)))) σ = some (.int (unlL (linesOf parts))) := fun σ h => unl_lines h hll hln
  generalize linesOf parts = L at *
  generalize cntL q0 L = m0 at *
  generalize cntL q1 L = m1 at *
  generalize cntL q2 L = m2 at *
  generalize cntL q3 L = m3 at *
  generalize unlL L = u at *
  generalize (PV.list (parts.map pvI)) = P at *
  unfold b_law
  generalize sFor (itv (vr 2)) take1 [4] (sAsg 3 (call d_zmul [(vr 3),(vr 4)])) = S1 at hsf ⊢
  generalize comp (itv (vr 2)) take1 [] (tcmp eqV (una lenV (vr 0)) (ci 2)) (tpl [(bin subV (ci 0) (idx (vr 0) (ci 0))),(idx (vr 0) (ci 1))]) = C1 at hlines ⊢
  generalize comp (itEnum (vr 3)) take2 [5] ttrue (bin mulV (vr 1) (bin powV (ci 2) (bin subV (vr 2) (vr 0)))) = C2 at hlf ⊢
  generalize una lenV (comp (itl (vr 6)) take2 [] (tchain ltV ltV (ci 0) (vr 0) (vr 1)) (ci 1)) = K0 at k0 ⊢
  generalize una lenV (comp (itl (vr 6)) take2 [] (tchain ltV ltV (ci 0) (bin mulV (ci 2) (vr 0)) (vr 1)) (ci 1)) = K1 at k1 ⊢
  generalize una lenV (comp (itl (vr 6)) take2 [] (tchain ltV ltV (vr 1) (bin mulV (ci 2) (vr 0)) (bin mulV (ci 2) (vr 1))) (ci 1)) = K2 at k2 ⊢
  generalize una lenV (comp (itl (vr 6)) take2 [] (tcmp eqV (bin mulV (ci 2) (vr 0)) (vr 1)) (ci 1)) = K3 at k3 ⊢
  generalize una lenV (una setV (comp (itl (vr 6)) take2 [] (tchain ltV leV (ci 0) (vr 0) (vr 1)) (bin fdivV (bin mulV (vr 0) (ci 60)) (vr 1)))) = K4 at k4 ⊢
  have j0 : ∀ s0 s1 s2 s3 s4 s5 r,K0 (s0 :: s1 :: s2 :: s3 :: s4 :: s5 :: .val (.list (L.map lnV)) :: r) = some (.int m0) := fun _ _ _ _ _ _ _ => k0 _ rfl
  have j1 : ∀ s0 s1 s2 s3 s4 s5 r,K1 (s0 :: s1 :: s2 :: s3 :: s4 :: s5 :: .val (.list (L.map lnV)) :: r) = some (.int m1) := fun _ _ _ _ _ _ _ => k1 _ rfl
  have j2 : ∀ s0 s1 s2 s3 s4 s5 r,K2 (s0 :: s1 :: s2 :: s3 :: s4 :: s5 :: .val (.list (L.map lnV)) :: r) = some (.int m2) := fun _ _ _ _ _ _ _ => k2 _ rfl
  have j3 : ∀ s0 s1 s2 s3 s4 s5 r,K3 (s0 :: s1 :: s2 :: s3 :: s4 :: s5 :: .val (.list (L.map lnV)) :: r) = some (.int m3) := fun _ _ _ _ _ _ _ => k3 _ rfl
  have j4 : ∀ s0 s1 s2 s3 s4 s5 r,K4 (s0 :: s1 :: s2 :: s3 :: s4 :: s5 :: .val (.list (L.map lnV)) :: r) = some (.int u) := fun _ _ _ _ _ _ _ => k4 _ rfl
  obtain ⟨t1,b0⟩ := half_step h0 (s0 := .unset) (s1 := .unset) (s2 := .val P) (s3 := .val (pvI f)) (s4 := t4) (s5 := .val (.int ((f.length : Int) - 1))) (s6 := .val (.list (L.map lnV))) (s7 := .val (pvI fl)) (s8 := .val (.list [pvI f,pvI fl,pvI fh])) (s9 := .val (.list [.int m0,.int m1,.int m2])) (s13 := .unset) (more := []) (r := [.unset,.unset]) (by simp)
  obtain ⟨t2,b1⟩ := half_step h1 (s0 := .unset) (s1 := .unset) (s2 := .val P) (s3 := .val (pvI f)) (s4 := t4) (s5 := .val (.int ((f.length : Int) - 1))) (s6 := .val (.list (L.map lnV))) (s7 := .val (pvI fl)) (s8 := .val (.list [pvI f,pvI fl,pvI fh])) (s9 := .val (.list [.int m0,.int m1,.int m2])) (s13 := t1) (more := [.int c0]) (r := [.unset,.unset]) (by simp)
  obtain ⟨t3,b2⟩ := half_step h2 (s0 := .unset) (s1 := .unset) (s2 := .val P) (s3 := .val (pvI f)) (s4 := t4) (s5 := .val (.int ((f.length : Int) - 1))) (s6 := .val (.list (L.map lnV))) (s7 := .val (pvI fl)) (s8 := .val (.list [pvI f,pvI fl,pvI fh])) (s9 := .val (.list [.int m0,.int m1,.int m2])) (s13 := t2) (more := [.int c0,.int c1]) (r := [.unset,.unset]) (by simp)
  generalize hB : (sSeq (sAsg 13 (call d_law_row [(vr 11)]))
  (sSeq (sIf (tcmp neV (una revV (call d_zshift [(una revV (vr 11)),(ci 1)])) (vr 13))
  (sRet (cst (.bool false)))
  sNop)
  (sSeq (sApp 10 (call d_law_changes [(vr 13)]))
  (sIf (tor (tcmp ltV (idxO 10 (una negV (ci 1))) (vr 12)) (tor (tcmp neV (bin modV (bin subV (idxO 10 (una negV (ci 1))) (vr 12)) (ci 2)) (ci 0)) (tnot (tval (call d_law_between [(vr 11),(vr 13)])))))
  (sRet (cst (.bool false)))
  sNop)))) = B at b0 b1 b2 ⊢
  have hz : itZip (vr 8) (vr 9) [.unset,.unset,.val P,.val (pvI f),t4,.val (.int ((f.length : Int) - 1)),.val (.list (L.map lnV)),.val (pvI fl),.val (.list [pvI f,pvI fl,pvI fh]),.val (.list [.int m0,.int m1,.int m2]),.own [],.unset,.unset,.unset,.unset,.unset] = some [.tup [pvI f,.int m0],.tup [pvI fl,.int m1],.tup [pvI fh,.int m2]] := rfl
  have hs2 : sFor (itZip (vr 8) (vr 9)) take2 [11,12] B [.unset,.unset,.val P,.val (pvI f),t4,.val (.int ((f.length : Int) - 1)),.val (.list (L.map lnV)),.val (pvI fl),.val (.list [pvI f,pvI fl,pvI fh]),.val (.list [.int m0,.int m1,.int m2]),.own [],.unset,.unset,.unset,.unset,.unset] = some (.next [.unset,.unset,.val P,.val (pvI f),t4,.val (.int ((f.length : Int) - 1)),.val (.list (L.map lnV)),.val (pvI fl),.val (.list [pvI f,pvI fl,pvI fh]),.val (.list [.int m0,.int m1,.int m2]),.own [.int c0,.int c1,.int c2],.val (pvI fh),.val (.int m2),t3,.unset,.unset]) := by
    rw [sFor_of hz rfl]
    simp only [List.nil_append,List.cons_append] at b0 b1 b2
    simp only [forGo,take2_tup,bindT,sM0,sM1,sM2,List.map_cons,List.map_nil,List.set_cons_zero,List.set_cons_succ,b0,b1,b2]
  generalize sFor (itZip (vr 8) (vr 9)) take2 [11,12] B = S2 at hs2 ⊢
  have i0 : idxL [.int (c0 : Int),.int (c1 : Int),.int (c2 : Int)] 0 = some (.int c0) := rfl
  have i1 : idxL [.int (c0 : Int),.int (c1 : Int),.int (c2 : Int)] 1 = some (.int c1) := rfl
  have i2 : idxL [.int (c0 : Int),.int (c1 : Int),.int (c2 : Int)] 2 = some (.int c2) := rfl
  have l3 : 3 ≤ lenMax := by rw [lenMax_eq]; decide
  have l4 : 2 < lenMax := by rw [lenMax_eq]; decide
  have g1 : decide ((c0 : Int) - c1 - c2 - m3 ≥ 0) = true := decide_eq_true (by lia)
  have g2 : ((c0 : Int) - c1 - c2 - m3).fmod 2 = 0 := by
    rw [Int.fmod_eq_emod_of_nonneg _ (by decide)]; lia
  simp only [List.replicate] at hsf
  simp only [run,sSeq,sRet,sAsg,sTup,sUnp,sIf,sNop,sOwn,sFrz,sDrop,sM0,sM1,sM2,evs,bin,una,vr,ci,cst,ifx,tcmp,tand,tor,tnot,tval,vtst,lst,tpl,idx_app,call,List.map_cons,List.map_nil,List.length_cons,List.length_nil,List.cons_append,List.nil_append,List.getElem?_cons_zero,List.getElem?_cons_succ,List.set_cons_zero,List.set_cons_succ,List.replicate,List.replicate_zero,List.replicate_succ,Nat.reduceAdd,Nat.reduceSub,if_true,decide_true,decide_false,hsf,lenV_pvI,subV_int,hlines,hlf,hsh,j0,j1,j2,sApp,l4,l3,hs2]
  simp only [run,sSeq,sRet,sAsg,sTup,sUnp,sIf,sNop,sOwn,sFrz,sDrop,sM0,sM1,sM2,evs,bin,una,vr,ci,cst,ifx,tcmp,tand,tor,tnot,tval,vtst,lst,tpl,idx_app,call,List.map_cons,List.map_nil,List.length_cons,List.length_nil,List.cons_append,List.nil_append,List.getElem?_cons_zero,List.getElem?_cons_succ,List.set_cons_zero,List.set_cons_succ,List.replicate,List.replicate_zero,List.replicate_succ,Nat.reduceAdd,Nat.reduceSub,if_true,decide_true,decide_false,idxO,l3,i0,i1,i2,subV_int,j3,j4,geV,g1,modV_2,g2,eqV_int,beq_self_eq_true,hcnt,if_true]
end Mine
end
section
open PySem PySem.W PyProof.Rows
set_option exponentiation.threshold 10000
namespace Mine
noncomputable def sm (k : Int) (l : List Int) : List Int := l.map (k * ·)
theorem sm_nil (k : Int) : sm k [] = [] := rfl
theorem sm_cons (k a : Int) (l : List Int) : sm k (a :: l) = (k * a) :: sm k l := rfl
theorem sm_sm (k m : Int) (l : List Int) : sm k (sm m l) = sm (k * m) l := by
  simp [sm,Int.mul_assoc]
theorem sm_one (l : List Int) : sm 1 l = l := by simp [sm]
theorem sm_length (k : Int) (l : List Int) : (sm k l).length = l.length := by simp [sm]
theorem negL_sm (l : List Int) : negL l = sm (-1) l := by simp [negL,sm]
theorem rnd_sm (y x s m : Int) : ∀ (rs bs : List Int),rnd (m * y) (s * x) (sm s rs) (sm m bs) = sm (s * m) (rnd y x rs bs)
  | [],bs => by cases bs <;> rfl
  | r :: rs,[] => by
    have ih := rnd_sm y x s m rs []
    simp only [sm_cons,sm_nil,rnd] at *
    rw [ih]
    congr 1
    grind
  | r :: rs,b :: bs => by
    have ih := rnd_sm y x s m rs bs
    simp only [sm_cons,rnd] at *
    rw [ih]
    congr 1
    grind
noncomputable def pr (y : Int) (bs l : List Int) : List Int := match l with
  | [] => []
  | x :: l => match rnd y x l bs with
    | [] => []
    | t :: ts => rnd y t ts bs
theorem pr_sm (y s m : Int) (bs l : List Int) : pr (m * y) (sm m bs) (sm s l) = sm (s * m * m) (pr y bs l) := by
  cases l with
  | nil => rfl
  | cons x l =>
    simp only [sm_cons,pr]
    rw [rnd_sm]
    cases h : rnd y x l bs with
    | nil => rfl
    | cons t ts =>
      simp only [sm_cons]
      rw [rnd_sm]
theorem trH_sm (k : Int) (hk : k ≠ 0) : ∀ (l : List Int),trH (sm k l) = sm k (trH l)
  | [] => rfl
  | a :: r => by
    rw [sm_cons,trH,trH]
    by_cases h : a = 0
    · rw [if_pos h,if_pos (by rw [h,Int.mul_zero]),trH_sm k hk r]
    · rw [if_neg h,if_neg (Int.mul_ne_zero hk h)]; rfl
theorem psH_pr {y : Int} {bs : List Int} (hy : y ≠ 0) {x0 x1 : Int} {xs : List Int} (h : bs.length = xs.length) : psH y bs 2 (x0 :: x1 :: xs) = trH (pr y bs (x0 :: x1 :: xs)) := by
  rw [psH,if_pos (by simp; lia)]
  have hl := rnd_length y x0 (x1 :: xs) bs
  cases ht : rnd y x0 (x1 :: xs) bs with
  | nil => rw [ht] at hl; simp at hl
  | cons t ts =>
    rw [ht] at hl
    simp only [List.length_cons] at hl
    have hpr : pr y bs (x0 :: x1 :: xs) = rnd y t ts bs := by simp only [pr,ht]
    rw [hpr,trH]
    by_cases h0 : t = 0
    · subst h0
      rw [if_pos rfl]
      have tl := trH_length ts
      rw [rnd_zero]
      have e := trH_sm y hy ts
      unfold sm at e
      rw [e]
      cases hq : trH ts with
      | nil => rfl
      | cons q qs =>
        rw [hq] at tl
        simp only [List.length_cons] at tl
        rw [psH,if_neg (by lia)]
        simp [Int.mul_comm,Int.pow_succ]
    · rw [if_neg h0,psH,if_pos (by lia)]
      rfl
theorem lessH_sm (l : List Int) : ∃ g : Int,g > 0 ∧ sm g (lessH l) = l := by
  unfold lessH
  split
  · rename_i h
    refine ⟨(gcdL 0 l : Nat),by lia,?_⟩
    have hd : ∀ x ∈ l,((gcdL 0 l : Nat) : Int) ∣ x := by
      have gen : ∀ (l : List Int) (g : Nat),(gcdL g l ∣ g) ∧ ∀ x ∈ l,((gcdL g l : Nat) : Int) ∣ x := by
        intro l
        induction l with
        | nil => intro g; exact ⟨Nat.dvd_refl _,fun _ q => nomatch q⟩
        | cons a r ih =>
          intro g
          have := ih (Nat.gcd g a.natAbs)
          refine ⟨Nat.dvd_trans this.1 (Nat.gcd_dvd_left _ _),fun x hx => ?_⟩
          cases hx with
          | head => exact Int.ofNat_dvd_left.mpr (Nat.dvd_trans this.1 (Nat.gcd_dvd_right _ _))
          | tail _ q => exact this.2 x q
      exact (gen l 0).2
    unfold sm divL
    rw [List.map_map]
    conv => rhs; rw [← List.map_id l]
    refine List.map_congr_left fun x hx => ?_
    have := Int.mul_fdiv_cancel' (hd x hx)
    simpa using this
  · exact ⟨1,by decide,sm_one l⟩
noncomputable def Rel (σ : Int) (a X : List Int) : Prop := ∃ k e : Int,k > 0 ∧ e > 0 ∧ sm k a = sm (σ * e) X
theorem Rel.refl (X : List Int) : Rel 1 X X := ⟨1,1,by decide,by decide,rfl⟩
theorem Rel.length {σ : Int} {a X : List Int} (h : Rel σ a X) : a.length = X.length := by
  obtain ⟨k,e,_,_,h⟩ := h
  have := congrArg List.length h
  simpa [sm_length] using this
theorem Rel.lead {σ y Y : Int} {bs Ys : List Int} (hs : σ = 1 ∨ σ = -1) (h : Rel σ (y :: bs) (Y :: Ys)) (hY : Y ≠ 0) : y ≠ 0 := by
  obtain ⟨k,e,hk,he,h⟩ := h
  simp only [sm_cons,List.cons.injEq] at h
  intro hy
  rw [hy,Int.mul_zero] at h
  have : σ * e ≠ 0 := by rcases hs with rfl | rfl <;> lia
  exact Int.mul_ne_zero this hY h.1.symm
theorem Rel.pr {σ τ : Int} {y Y : Int} {a X bs Ys : List Int} (ht : τ = 1 ∨ τ = -1) (ha : Rel σ a X) (hb : Rel τ (y :: bs) (Y :: Ys)) : Rel σ (Mine.pr y bs a) (Mine.pr Y Ys X) := by
  obtain ⟨k,e,hk,he,h⟩ := ha
  obtain ⟨m,u,hm,hu,h'⟩ := hb
  simp only [sm_cons,List.cons.injEq] at h'
  have e1 := pr_sm y k m bs a
  rw [h'.1,h'.2,h,pr_sm] at e1
  refine ⟨k * m * m,e * u * u,Int.mul_pos (Int.mul_pos hk hm) hm,Int.mul_pos (Int.mul_pos he hu) hu,?_⟩
  rw [← e1]
  congr 1
  rcases ht with rfl | rfl <;> grind
theorem Rel.neg_less {σ : Int} {a X : List Int} (h : Rel σ a X) : Rel (-σ) (lessH (negL a)) X := by
  obtain ⟨k,e,hk,he,h⟩ := h
  obtain ⟨g,hg,h'⟩ := lessH_sm (negL a)
  refine ⟨k * g,e,Int.mul_pos hk hg,he,?_⟩
  rw [← sm_sm,h',negL_sm,sm_sm,Int.mul_comm k,← sm_sm,h,sm_sm]
  congr 1; grind
theorem trH_ne {a : Int} {r : List Int} (h : a ≠ 0) : trH (a :: r) = a :: r := by rw [trH,if_neg h]
theorem Rel.next {σ τ : Int} {y Y Z : Int} {a X bs Ys Zs : List Int} (hs : σ = 1 ∨ σ = -1) (ht : τ = 1 ∨ τ = -1) (ha : Rel σ a X) (hb : Rel τ (y :: bs) (Y :: Ys)) (hY : Y ≠ 0) (hl : X.length = Ys.length + 2) (hz : Mine.pr Y Ys X = Z :: Zs) (hZ : Z ≠ 0) : Rel (-σ) (nextH a y bs) (Z :: Zs) := by
  have al := ha.length
  have bl := hb.length
  simp only [List.length_cons] at bl
  have hy := hb.lead ht hY
  have r := ha.pr ht hb
  rw [hz] at r
  obtain ⟨x0,x1,xs,rfl⟩ : ∃ x0 x1 xs,a = x0 :: x1 :: xs := by
    match a,al,hl with
    | x0 :: x1 :: xs,_,_ => exact ⟨x0,x1,xs,rfl⟩
    | [_],al,hl => simp at al; lia
    | [],al,hl => simp at al; lia
  simp only [List.length_cons] at al
  have e2 : (x0 :: x1 :: xs).length - bs.length = 2 := by simp only [List.length_cons]; lia
  unfold nextH
  rw [e2,if_neg (by lia),psH_pr hy (by lia)]
  have rl := r.length
  cases hp : Mine.pr y bs (x0 :: x1 :: xs) with
  | nil => rw [hp] at rl; simp at rl
  | cons w ws =>
    rw [hp] at r
    rw [trH_ne (r.lead hs hZ)]
    exact r.neg_less
theorem next_const {σ y : Int} {a : List Int} {x0 x1 : Int} (hy : y ≠ 0) : nextH [x0,x1] y [] = [] := by
  unfold nextH
  have e2 : [x0,x1].length - ([] : List Int).length = 2 := rfl
  rw [e2,if_neg (by lia),psH_pr hy rfl]
  rfl
theorem valH_gen (t k : Int) : ∀ (l : List Int) (v : Int),valH t (k * v) (sm k l) = k * valH t v l
  | [],v => rfl
  | c :: r,v => by
    rw [sm_cons,valH,valH,← valH_gen t k r]
    congr 1; grind
theorem valH_sm (t k : Int) (l : List Int) : valH t 0 (sm k l) = k * valH t 0 l := by
  have := valH_gen t k l 0
  rwa [Int.mul_zero] at this
theorem sgnI_pos {k x : Int} (hk : k > 0) : sgnI (k * x) = sgnI x := by
  unfold sgnI
  by_cases h : x > 0
  · rw [if_pos h,if_pos (Int.mul_pos hk h)]
  · by_cases h2 : x < 0
    · rw [if_neg h,if_pos h2,if_neg (by have := Int.mul_neg_of_pos_of_neg hk h2; lia),if_pos (Int.mul_neg_of_pos_of_neg hk h2)]
    · have : x = 0 := by lia
      subst this; rw [Int.mul_zero]
theorem Rel.sgn {σ : Int} {a X : List Int} (h : Rel σ a X) (t : Int) : sgnI (valH t 0 a) = sgnI (σ * valH t 0 X) := by
  obtain ⟨k,e,hk,he,h⟩ := h
  have e1 := congrArg (valH t 0) h
  rw [valH_sm,valH_sm] at e1
  rw [← sgnI_pos (x := valH t 0 a) hk,e1,Int.mul_comm σ e,Int.mul_assoc,sgnI_pos he]
end Mine
end
section
open PySem PySem.W PyProof.Rows
set_option exponentiation.threshold 10000
namespace Mine
theorem rnd_gd {k kb n1 n2 : Nat} {y x : Int} : ∀ {rs bs : List Int},Gd k n1 rs → Gd kb n2 (y :: bs) → Sm n1 x → Gd k (n1 + n2 + 1) (rnd y x rs bs)
  | [],bs,_,_,_ => by cases bs <;> exact ⟨by simp [rnd],fun _ q => nomatch q⟩
  | r :: rs,[],h,hb,hx => by
    have hy := hb.sm y (.head _)
    have ih := rnd_gd (k := k) (rs := rs) (bs := []) ⟨by have := h.len; simp at this; lia,fun z q => h.sm z (.tail _ q)⟩ hb hx
    refine ⟨by rw [rnd_length]; exact h.len,fun z hz => ?_⟩
    rw [rnd] at hz
    cases hz with
    | head => exact (hy.mul (h.sm r (.head _))).mono (by lia)
    | tail _ q => exact ih.sm z q
  | r :: rs,b :: bs,h,hb,hx => by
    have hy := hb.sm y (.head _)
    have ih := rnd_gd (k := k) (kb := kb) (rs := rs) (bs := bs) ⟨by have := h.len; simp at this; lia,fun z q => h.sm z (.tail _ q)⟩ (n2 := n2) (y := y) ⟨by have := hb.len; simp at this ⊢; lia,fun z q => hb.sm z (by cases q with | head => exact .head _ | tail _ q => exact .tail _ (.tail _ q))⟩ hx
    refine ⟨by rw [rnd_length]; exact h.len,fun z hz => ?_⟩
    rw [rnd] at hz
    cases hz with
    | head =>
      have e1 := (hy.mul (h.sm r (.head _))).mono (show n2 + n1 ≤ n1 + n2 by lia)
      have e2 := hx.mul (hb.sm b (.tail _ (.head _)))
      rw [Int.sub_eq_add_neg]
      exact e1.add e2.neg
    | tail _ q => exact ih.sm z q
theorem pr_gd {k kb n1 n2 : Nat} {y : Int} {bs l : List Int} (h : Gd k n1 l) (hb : Gd kb n2 (y :: bs)) : Gd k (n1 + 2 * n2 + 2) (pr y bs l) := by
  cases l with
  | nil => exact ⟨by simp [pr],fun _ q => nomatch q⟩
  | cons x l =>
    have g := rnd_gd (k := k) (rs := l) ⟨by have := h.len; simp at this; lia,fun z q => h.sm z (.tail _ q)⟩ hb (h.sm x (.head _))
    unfold pr
    dsimp only
    cases ht : rnd y x l bs with
    | nil => exact ⟨by simp,fun _ q => nomatch q⟩
    | cons t ts =>
      rw [ht] at g
      exact (rnd_gd (k := k) ⟨by have := g.len; simp at this; lia,fun z q => g.sm z (.tail _ q)⟩ hb (g.sm t (.head _))).mono (Nat.le_refl _) (by lia)
theorem sm_gd {k n : Nat} {g : Int} {l : List Int} (hg : g > 0) (h : Gd k n (sm g l)) : Gd k n l := by
  refine ⟨by have := h.len; rwa [sm_length] at this,fun x hx => ?_⟩
  have := h.sm (g * x) (List.mem_map.mpr ⟨x,hx,rfl⟩)
  unfold Sm at *
  rw [Int.natAbs_mul] at this
  have : 1 * x.natAbs ≤ g.natAbs * x.natAbs := Nat.mul_le_mul (by lia) (Nat.le_refl _)
  lia
theorem less_gd {k n : Nat} {l : List Int} (h : Gd k n l) : Gd k n (lessH l) := by
  obtain ⟨g,hg,e⟩ := lessH_sm l
  exact sm_gd hg (by rw [e]; exact h)
theorem trH_mem : ∀ (l : List Int) (x : Int),x ∈ trH l → x ∈ l
  | [],x,h => h
  | a :: r,x,h => by
    unfold trH at h
    split at h
    · exact .tail _ (trH_mem r x h)
    · exact h
theorem trH_gd {k n : Nat} {l : List Int} (h : Gd k n l) : Gd k n (trH l) := ⟨Nat.le_trans (trH_length l) h.len,fun x q => h.sm x (trH_mem l x q)⟩
theorem row_step {N n1 n2 : Nat} {σ τ y Y Z : Int} {a X bs Ys Zs : List Int} (hs : σ = 1 ∨ σ = -1) (ht : τ = 1 ∨ τ = -1) (ha : Rel σ a X) (hb : Rel τ (y :: bs) (Y :: Ys)) (ga : Gd 100 n1 a) (gb : Gd 100 n2 (y :: bs)) (hn1 : n1 ≤ 4000) (hn2 : n2 ≤ 4000) (hY : Y ≠ 0) (hl : X.length = Ys.length + 2) (hz : pr Y Ys X = Z :: Zs) (hZ : Z ≠ 0) :
    ∃ c cs,Rel (-σ) (c :: cs) (Z :: Zs) ∧ Gd 100 (n1 + 2 * n2 + 2) (c :: cs) ∧ ∀ r,rowH N (y :: bs) (c :: cs) = some r → rowH (N + 1) a (y :: bs) = some (a :: r) := by
  have r := Rel.next hs ht ha hb hY hl hz hZ
  have hy := hb.lead ht hY
  have g : Gd 100 (n1 + 2 * n2 + 2) (nextH a y bs) := by
    have al := ha.length
    have bl := hb.length
    simp only [List.length_cons] at bl
    obtain ⟨x0,x1,xs,rfl⟩ : ∃ x0 x1 xs,a = x0 :: x1 :: xs := by
      match a,al,hl with
      | x0 :: x1 :: xs,_,_ => exact ⟨x0,x1,xs,rfl⟩
      | [_],al,hl => simp at al; lia
      | [],al,hl => simp at al; lia
    simp only [List.length_cons] at al
    have e2 : (x0 :: x1 :: xs).length - bs.length = 2 := by simp only [List.length_cons]; lia
    unfold nextH
    rw [e2,if_neg (by lia),psH_pr hy (by lia)]
    exact less_gd (trH_gd (pr_gd ga gb)).negL
  cases hc : nextH a y bs with
  | nil => rw [hc] at r; have := r.length; simp at this
  | cons c cs =>
    rw [hc] at r g
    refine ⟨c,cs,r,g,fun w hw => ?_⟩
    rw [rowH]
    rw [if_pos ⟨hy,gd_gdB (ga.mono (Nat.le_refl _) hn1),gd_gdB (gb.mono (Nat.le_refl _) hn2)⟩,hc,hw]
theorem row_end {N n1 n2 : Nat} {a0 a1 y : Int} (ga : Gd 100 n1 [a0,a1]) (gb : Gd 100 n2 [y]) (hn1 : n1 ≤ 4000) (hn2 : n2 ≤ 4000) (hy : y ≠ 0) : rowH (N + 2) [a0,a1] [y] = some [[a0,a1],[y]] := by
  rw [rowH]
  rw [if_pos ⟨hy,gd_gdB (ga.mono (Nat.le_refl _) hn1),gd_gdB (gb.mono (Nat.le_refl _) hn2)⟩,next_const (σ := 1) (a := []) hy]
  rfl
noncomputable def chS (s : List Int) : Nat := adj (fun a b => !(b == a)) (s.filter fun x => !(x == 0))
theorem chgH_eq (t : Int) (row : List (List Int)) : chgH t row = chS (row.map fun l => sgnI (valH t 0 l)) := rfl
theorem one_or : (1 : Int) = 1 ∨ (1 : Int) = -1 := .inl rfl
theorem neg_or : (-1 : Int) = 1 ∨ (-1 : Int) = -1 := .inr rfl
theorem sgn_n {x : Int} : sgnI (-1 * x) = sgnI (-x) := by rw [Int.neg_one_mul]
theorem sgn_p {x : Int} : sgnI (1 * x) = sgnI x := by rw [Int.one_mul]
noncomputable def sv (t : Int) (l : List Int) : Int := valH t 0 l
theorem der2 (a b : Int) : derH [a,b] = [a] := by simp [derH,deriveP,mapE]
theorem der3 (a b c : Int) : derH [a,b,c] = [a * 2,b] := by simp [derH,deriveP,mapE]
theorem der4 (a b c d : Int) : derH [a,b,c,d] = [a * 3,b * 2,c] := by simp [derH,deriveP,mapE]
theorem der5 (a b c d e : Int) : derH [a,b,c,d,e] = [a * 4,b * 3,c * 2,d] := by simp [derH,deriveP,mapE]
theorem der_gd {k n : Nat} {f : List Int} (hf : Gd k n f) (hk : f.length ≤ 5) : Gd k (n + 3) (derH f) := by
  refine ⟨by have := hf.len; rw [derH_length]; lia,fun x h => ?_⟩
  unfold derH deriveP at h
  exact mapE_sm f.reverse 0 (fun i y hy h0 h1 => (hf.sm y (List.mem_reverse.1 hy)).mul (show Sm 3 i by rw [List.length_reverse] at h1; unfold Sm; lia)) x (List.mem_of_mem_drop (List.mem_reverse.1 h))
theorem st_of {f : List Int} {row : List (List Int)} (hf : Gd 100 4000 f) (h : rowH ((derH f).length + 3) f (derH f) = some row) : stH f = some ((chgH 0 row : Int) - chgH 1 row) := by
  unfold stH
  rw [if_pos (gd_gdB hf),h]
theorem st5 {a b c d e A B C D E F : Int} (hf : Gd 100 100 [a,b,c,d,e]) (ha : a ≠ 0) (h1 : pr (a * 4) [b * 3,c * 2,d] [a,b,c,d,e] = [A,B,C]) (hA : A ≠ 0) (h2 : pr A [B,C] [a * 4,b * 3,c * 2,d] = [D,E]) (hD : D ≠ 0) (h3 : pr D [E] [A,B,C] = [F]) (hF : F ≠ 0) :
    stH [a,b,c,d,e] = some ((chS [sgnI e,sgnI d,sgnI (-C),sgnI (-E),sgnI F] : Int) - chS [sgnI (a + b + c + d + e),sgnI (a * 4 + b * 3 + c * 2 + d),sgnI (-(A + B + C)),sgnI (-(D + E)),sgnI F]) := by
  have g1 := der_gd hf (by simp)
  rw [der5] at g1
  have ha4 : a * 4 ≠ 0 := by lia
  obtain ⟨p,ps,r2,g2,k2⟩ := row_step (N := 6) one_or one_or (Rel.refl _) (Rel.refl _) hf g1 (by decide) (by decide) ha4 rfl h1 hA
  obtain ⟨q,qs,r3,g3,k3⟩ := row_step (N := 5) one_or neg_or (Rel.refl _) r2 g1 g2 (by decide) (by decide) hA rfl h2 hD
  obtain ⟨w,ws,r4,g4,k4⟩ := row_step (N := 4) neg_or neg_or r2 r3 g2 g3 (by decide) (by decide) hD rfl h3 hF
  obtain ⟨q1,rfl⟩ := len1 (l := qs) (by have := r3.length; simpa using this)
  obtain rfl : ws = [] := List.length_eq_zero_iff.mp (by have := r4.length; simpa using this)
  have hw : w ≠ 0 := r4.lead (by decide) hF
  have row := k2 _ (k3 _ (k4 _ (row_end (N := 2) g3 g4 (by decide) (by decide) hw)))
  rw [st_of (hf.mono (Nat.le_refl _) (by decide)) (by rw [der5]; exact row)]
  have s2 := r2.sgn
  have s3 := r3.sgn
  have s4 := r4.sgn
  simp only [chgH_eq,List.map_cons,List.map_nil,s2,s3,s4]
  simp only [valH,Int.mul_zero,Int.zero_add,Int.mul_one,Int.neg_neg,Int.one_mul,Int.neg_one_mul,Int.zero_mul]
theorem st4 {a b c d A B C : Int} (hf : Gd 100 100 [a,b,c,d]) (ha : a ≠ 0) (h1 : pr (a * 3) [b * 2,c] [a,b,c,d] = [A,B]) (hA : A ≠ 0) (h2 : pr A [B] [a * 3,b * 2,c] = [C]) (hC : C ≠ 0) :
    stH [a,b,c,d] = some ((chS [sgnI d,sgnI c,sgnI (-B),sgnI (-C)] : Int) - chS [sgnI (a + b + c + d),sgnI (a * 3 + b * 2 + c),sgnI (-(A + B)),sgnI (-C)]) := by
  have g1 := der_gd hf (by simp)
  rw [der4] at g1
  have ha4 : a * 3 ≠ 0 := by lia
  obtain ⟨p,ps,r2,g2,k2⟩ := row_step (N := 5) one_or one_or (Rel.refl _) (Rel.refl _) hf g1 (by decide) (by decide) ha4 rfl h1 hA
  obtain ⟨q,qs,r3,g3,k3⟩ := row_step (N := 4) one_or neg_or (Rel.refl _) r2 g1 g2 (by decide) (by decide) hA rfl h2 hC
  obtain ⟨q1,rfl⟩ := len1 (l := ps) (by have := r2.length; simpa using this)
  obtain rfl : qs = [] := List.length_eq_zero_iff.mp (by have := r3.length; simpa using this)
  have hw : q ≠ 0 := r3.lead neg_or hC
  have row := k2 _ (k3 _ (row_end (N := 2) g2 g3 (by decide) (by decide) hw))
  rw [st_of (hf.mono (Nat.le_refl _) (by decide)) (by rw [der4]; exact row)]
  have s2 := r2.sgn
  have s3 := r3.sgn
  simp only [chgH_eq,List.map_cons,List.map_nil,s2,s3]
  simp only [valH,Int.mul_zero,Int.zero_add,Int.mul_one,Int.neg_neg,Int.one_mul,Int.neg_one_mul,Int.zero_mul]
theorem st3 {a b c A : Int} (hf : Gd 100 100 [a,b,c]) (ha : a ≠ 0) (h1 : pr (a * 2) [b] [a,b,c] = [A]) (hA : A ≠ 0) :
    stH [a,b,c] = some ((chS [sgnI c,sgnI b,sgnI (-A)] : Int) - chS [sgnI (a + b + c),sgnI (a * 2 + b),sgnI (-A)]) := by
  have g1 := der_gd hf (by simp)
  rw [der3] at g1
  have ha4 : a * 2 ≠ 0 := by lia
  obtain ⟨p,ps,r2,g2,k2⟩ := row_step (N := 4) one_or one_or (Rel.refl _) (Rel.refl _) hf g1 (by decide) (by decide) ha4 rfl h1 hA
  obtain rfl : ps = [] := List.length_eq_zero_iff.mp (by have := r2.length; simpa using this)
  have hw : p ≠ 0 := r2.lead neg_or hA
  have row := k2 _ (row_end (N := 2) g1 g2 (by decide) (by decide) hw)
  rw [st_of (hf.mono (Nat.le_refl _) (by decide)) (by rw [der3]; exact row)]
  have s2 := r2.sgn
  simp only [chgH_eq,List.map_cons,List.map_nil,s2]
  simp only [valH,Int.mul_zero,Int.zero_add,Int.mul_one,Int.neg_neg,Int.one_mul,Int.neg_one_mul,Int.zero_mul]
theorem st2 {a b : Int} (hf : Gd 100 100 [a,b]) (ha : a ≠ 0) : stH [a,b] = some ((chS [sgnI b,sgnI a] : Int) - chS [sgnI (a + b),sgnI a]) := by
  have g1 := der_gd hf (by simp)
  rw [der2] at g1
  have row := row_end (N := 2) hf g1 (by decide) (by decide) ha
  rw [st_of (hf.mono (Nat.le_refl _) (by decide)) (by rw [der2]; exact row)]
  simp only [chgH_eq,List.map_cons,List.map_nil]
  simp only [valH,Int.mul_zero,Int.zero_add,Int.mul_one,Int.neg_neg,Int.one_mul,Int.neg_one_mul,Int.zero_mul]
end Mine
end
section
open PySem PySem.W PyProof.Rows
set_option exponentiation.threshold 10000
namespace Mine
theorem ex_D (p4 p3 p2 p1 p0 δ u v w t1 t2 t3 t4 A B C : Int) (h1 : t1 = δ * p3 - p4 * u) (h2 : t2 = δ * p2 - p4 * v) (h3 : t3 = δ * p1 - p4 * w) (h4 : t4 = δ * p0) (hA : A = δ * t2 - t1 * u) (hB : B = δ * t3 - t1 * v) (hC : C = δ * t4 - t1 * w) :
   A * (A * v - δ * C) - (A * u - δ * B) * B = δ * δ * (t2 * (t2 * v - t3 * u) - t2 * (δ * t4 - t1 * w) + t1 * u * t4 + δ * t3 * t3 - 2 * t1 * t3 * v + t1 * (-u * v * p2 + u * u * p1 - u * w * p3 + v * v * p3)) := by
  subst hA hB hC
  have k : t1 * (-u * t2 * v + u * u * t3 - t1 * u * w + t1 * v * v) = t1 * (δ * (-u * v * p2 + u * u * p1 - u * w * p3 + v * v * p3)) := by
    congr 1
    subst h1 h2 h3
    grind
  grind
theorem ex_E (p4 p3 p2 p1 p0 δ u v w t1 t2 t3 t4 A B C : Int) (h1 : t1 = δ * p3 - p4 * u) (h2 : t2 = δ * p2 - p4 * v) (h3 : t3 = δ * p1 - p4 * w) (h4 : t4 = δ * p0) (hA : A = δ * t2 - t1 * u) (hB : B = δ * t3 - t1 * v) (hC : C = δ * t4 - t1 * w) :
   A * (A * w) - (A * u - δ * B) * C = δ * δ * (t2 * (t2 * w - t4 * u) + δ * t3 * t4 - t3 * t1 * w - t1 * v * t4 + t1 * (-u * w * p2 + u * u * p0 + p3 * v * w)) := by
  subst hA hB hC
  have k : t1 * (-u * t2 * w + u * u * t4 + t1 * v * w) = t1 * (δ * (-u * w * p2 + u * u * p0 + p3 * v * w)) := by
    congr 1
    subst h1 h2 h4
    grind
  grind
theorem gcdL_dvd : ∀ (l : List Int) (g : Nat),(gcdL g l ∣ g) ∧ ∀ x ∈ l,((gcdL g l : Nat) : Int) ∣ x
  | [],g => ⟨Nat.dvd_refl _,fun _ q => nomatch q⟩
  | a :: r,g => by
    have := gcdL_dvd r (Nat.gcd g a.natAbs)
    refine ⟨Nat.dvd_trans this.1 (Nat.gcd_dvd_left _ _),fun x hx => ?_⟩
    cases hx with
    | head => exact Int.ofNat_dvd_left.mpr (Nat.dvd_trans this.1 (Nat.gcd_dvd_right _ _))
    | tail _ q => exact this.2 x q
theorem div_sm {l : List Int} {g : Int} (hg : g ≠ 0) (h : ∀ x ∈ l,g ∣ x) : sm g (divL l g) = l := by
  unfold sm divL
  rw [List.map_map]
  conv => rhs; rw [← List.map_id l]
  refine List.map_congr_left fun x hx => ?_
  have := Int.mul_fdiv_cancel' (h x hx)
  simpa using this
theorem prim_sm {a : Int} {r : List Int} (ha : a > 0) : ∃ g b bs,g > 0 ∧ primH (a :: r) = b :: bs ∧ b > 0 ∧ g * b = a ∧ sm g bs = r := by
  have hpos := gcdL_pos' (a :: r) ⟨a,.head _,by lia⟩ 0
  have hd := (gcdL_dvd (a :: r) 0).2
  have hs := div_sm (l := a :: r) (g := (gcdL 0 (a :: r) : Nat)) (by lia) hd
  have e : primH (a :: r) = divL (a :: r) (gcdL 0 (a :: r) : Nat) := by unfold primH; dsimp only; rw [if_pos ha]
  refine ⟨(gcdL 0 (a :: r) : Nat),a.fdiv (gcdL 0 (a :: r) : Nat),divL r (gcdL 0 (a :: r) : Nat),by lia,by rw [e]; rfl,?_,?_,?_⟩
  · have h1 : ((gcdL 0 (a :: r) : Nat) : Int) * a.fdiv (gcdL 0 (a :: r) : Nat) = a := Int.mul_fdiv_cancel' (hd a (.head _))
    by_cases h : a.fdiv (gcdL 0 (a :: r) : Nat) > 0
    · exact h
    · have : ((gcdL 0 (a :: r) : Nat) : Int) * a.fdiv (gcdL 0 (a :: r) : Nat) ≤ 0 := Int.mul_nonpos_of_nonneg_of_nonpos (by lia) (by lia)
      lia
  · exact Int.mul_fdiv_cancel' (hd a (.head _))
  · have := hs
    simp only [divL,List.map_cons,sm_cons,List.cons.injEq] at this
    exact this.2
theorem sub_step {n n1 n2 n3 : Nat} {x0 x1 y z fr he : Int} {xs bs : List Int} (hy : y ≠ 0) (hl : xs.length = bs.length + 1) (ga : Gd 100 n1 (x0 :: x1 :: xs)) (gb : Gd 100 n2 (y :: z :: bs)) (sf : Sm n3 fr) (sh : Sm n3 he) (hn1 : n1 ≤ 4000) (hn2 : n2 ≤ 4000) (hn3 : n3 ≤ 4000) (h0 : he ≠ 0) (hf : fr ≠ 0) :
    subH (n + 1) (x0 :: x1 :: xs) (y :: z :: bs) fr he = match trH (pr y (z :: bs) (x0 :: x1 :: xs)) with
      | [] => some (y :: z :: bs)
      | c :: cs => subH n (y :: z :: bs) (divL (c :: cs) (fr * he)) y y := by
  rw [subH]
  rw [if_pos ⟨hy,by simp; lia,gd_gdB (ga.mono (Nat.le_refl _) hn1),gd_gdB (gb.mono (Nat.le_refl _) hn2),sm_smD (sf.mono hn3),sm_smD (sh.mono hn3),h0,hf⟩]
  have e1 : (x0 :: x1 :: xs).length - (bs.length + 1) = 2 := by simp only [List.length_cons]; lia
  have e2 : (x0 :: x1 :: xs).length - (bs.length + 2) = 1 := by simp only [List.length_cons]; lia
  have e3 : nhH 1 y he = y := by
    unfold nhH
    rw [if_neg (by decide)]
    simp [Int.pow_succ]
  rw [e1,e2,psH_pr hy (by simp; lia),e3,Int.pow_succ,Int.pow_zero,Int.one_mul]
  all_goals (cases trH (pr y (z :: bs) (x0 :: x1 :: xs)) <;> rfl)
theorem sub_one {n : Nat} {a : List Int} {x fr he : Int} : subH (n + 1) a [x] fr he = some [x] := by rw [subH]
theorem divL_one (l : List Int) : divL l (1 * 1) = l := by
  unfold divL
  rw [Int.one_mul]
  conv => rhs; rw [← List.map_id l]
  exact List.map_congr_left fun x _ => by simp
theorem Gd.prim {k n : Nat} {g b a : Int} {bs r : List Int} (hg : g > 0) (h1 : g * b = a) (h2 : Mine.sm g bs = r) (h : Gd k n (a :: r)) : Gd k n (b :: bs) := sm_gd hg (by rw [sm_cons,h1,h2]; exact h)
theorem gcd5 {a b c d e A B C D E F : Int} (hf : Gd 100 100 [a,b,c,d,e]) (ha : a > 0) (h1 : pr (a * 4) [b * 3,c * 2,d] [a,b,c,d,e] = [A,B,C]) (hA : A ≠ 0) (h2 : pr A [B,C] [a * 4,b * 3,c * 2,d] = [D,E]) (hD : D ≠ 0) (h3 : pr D [E] [A,B,C] = [F]) :
    (F ≠ 0 → ∃ x,subH 7 (primH [a,b,c,d,e]) (primH [a * 4,b * 3,c * 2,d]) 1 1 = some [x]) ∧ (F = 0 → ∃ κ l1 l0,κ ≠ 0 ∧ subH 7 (primH [a,b,c,d,e]) (primH [a * 4,b * 3,c * 2,d]) 1 1 = some [l1,l0] ∧ κ * l1 = D ∧ κ * l0 = E ∧ Gd 100 1000 [l1,l0]) := by
  have g1 := der_gd hf (by simp)
  rw [der5] at g1
  obtain ⟨c0,p4,ps,hc0,e0,hp4,m4,mr⟩ := prim_sm (r := [b,c,d,e]) ha
  obtain ⟨c1,δ,us,hc1,e1,hδ,n4,nr⟩ := prim_sm (a := a * 4) (r := [b * 3,c * 2,d]) (by lia)
  rw [e0,e1]
  have G0 := Gd.prim hc0 m4 mr hf
  have G1 := Gd.prim hc1 n4 nr g1
  obtain ⟨p3,p2,p1,p0,rfl⟩ := len4 (l := ps) (by have := congrArg List.length mr; rwa [sm_length] at this)
  obtain ⟨u,v,w,rfl⟩ := len3 (l := us) (by have := congrArg List.length nr; rwa [sm_length] at this)
  have R1 := pr_sm δ c0 c1 [u,v,w] [p4,p3,p2,p1,p0]
  rw [n4,nr,sm_cons,m4,mr,h1] at R1
  have G2 := pr_gd G0 G1
  obtain ⟨A',B',C',k1,dA,dB,dC⟩ : ∃ A' B' C',pr δ [u,v,w] [p4,p3,p2,p1,p0] = [A',B',C'] ∧ A' = δ * (δ * p2 - p4 * v) - (δ * p3 - p4 * u) * u ∧ B' = δ * (δ * p1 - p4 * w) - (δ * p3 - p4 * u) * v ∧ C' = δ * (δ * p0) - (δ * p3 - p4 * u) * w := ⟨_,_,_,rfl,rfl,rfl,rfl⟩
  rw [k1] at R1 G2
  simp only [sm_cons,sm_nil,List.cons.injEq,and_true] at R1
  have hρ : c0 * c1 * c1 > 0 := Int.mul_pos (Int.mul_pos hc0 hc1) hc1
  have hA' : A' ≠ 0 := by
    intro z; rw [z,Int.mul_zero] at R1; exact hA R1.1
  rw [sub_step (n3 := 1) (by lia) rfl G0 G1 (show Sm 1 1 by unfold Sm; decide) (show Sm 1 1 by unfold Sm; decide) (by decide) (by decide) (by decide) (by decide) (by decide),k1,trH_ne hA']
  dsimp only
  rw [divL_one]
  have R2 := pr_sm A' c1 (c0 * c1 * c1) [B',C'] [δ,u,v,w]
  have f1' : sm c1 [δ,u,v,w] = [a * 4,b * 3,c * 2,d] := by rw [sm_cons,n4,nr]
  have fB : sm (c0 * c1 * c1) [B',C'] = [B,C] := by
    simp only [sm_cons,sm_nil,R1.2.1,R1.2.2]
  rw [← R1.1,fB,f1',h2] at R2
  have G3 := pr_gd G1 G2
  have dD := ex_D p4 p3 p2 p1 p0 δ u v w _ _ _ _ A' B' C' rfl rfl rfl rfl dA dB dC
  have dE := ex_E p4 p3 p2 p1 p0 δ u v w _ _ _ _ A' B' C' rfl rfl rfl rfl dA dB dC
  obtain ⟨D',hD'⟩ : ∃ D',A' * (A' * v - δ * C') - (A' * u - δ * B') * B' = δ * δ * D' := ⟨_,dD⟩
  obtain ⟨E',hE'⟩ : ∃ E',A' * (A' * w) - (A' * u - δ * B') * C' = δ * δ * E' := ⟨_,dE⟩
  have k2 : pr A' [B',C'] [δ,u,v,w] = [δ * δ * D',δ * δ * E'] := by
    rw [← hD',← hE']; rfl
  rw [k2] at R2 G3
  simp only [sm_cons,sm_nil,List.cons.injEq,and_true] at R2
  have hδδ : δ * δ > 0 := Int.mul_pos hδ hδ
  have hκ : c1 * (c0 * c1 * c1) * (c0 * c1 * c1) > 0 := Int.mul_pos (Int.mul_pos hc1 hρ) hρ
  have hD'' : D' ≠ 0 := by
    intro z; rw [z,Int.mul_zero,Int.mul_zero] at R2; exact hD R2.1
  have hD3 : δ * δ * D' ≠ 0 := Int.mul_ne_zero (by lia) hD''
  have sδ := G1.sm δ (.head _)
  rw [sub_step (n3 := 103) hA' rfl G1 G2 sδ sδ (by decide) (by decide) (by decide) (by lia) (by lia),k2,trH_ne hD3]
  dsimp only
  have ed : divL [δ * δ * D',δ * δ * E'] (δ * δ) = [D',E'] := by
    simp only [divL,List.map_cons,List.map_nil]
    rw [Int.mul_fdiv_cancel_left _ (by lia),Int.mul_fdiv_cancel_left _ (by lia)]
  rw [ed]
  have G4 : Gd 100 (103 + 2 * (100 + 2 * 103 + 2) + 2) [D',E'] := sm_gd hδδ (by
    simp only [sm_cons,sm_nil]; exact G3)
  have sA := G2.sm A' (.head _)
  rw [sub_step (n3 := 100 + 2 * 103 + 2) hD'' rfl G2 G4 sA sA (by decide) (by decide) (by decide) hA' hA']
  have R3 := pr_sm D' (c0 * c1 * c1) (c1 * (c0 * c1 * c1) * (c0 * c1 * c1) * (δ * δ)) [E'] [A',B',C']
  have q1 : c1 * (c0 * c1 * c1) * (c0 * c1 * c1) * (δ * δ) * D' = D := by rw [R2.1,Int.mul_assoc]
  have q2 : sm (c1 * (c0 * c1 * c1) * (c0 * c1 * c1) * (δ * δ)) [E'] = [E] := by rw [R2.2]; simp only [sm_cons,sm_nil,Int.mul_assoc]
  have q3 : sm (c0 * c1 * c1) [A',B',C'] = [A,B,C] := by simp only [sm_cons,sm_nil,R1.1,R1.2.1,R1.2.2]
  rw [q1,q2,q3,h3] at R3
  obtain ⟨F',k3⟩ : ∃ F',pr D' [E'] [A',B',C'] = [F'] := ⟨_,rfl⟩
  rw [k3] at R3 ⊢
  simp only [sm_cons,sm_nil,List.cons.injEq,and_true] at R3
  have hl1 : c1 * (c0 * c1 * c1) * (c0 * c1 * c1) * (δ * δ) > 0 := Int.mul_pos hκ hδδ
  have hm1 : c0 * c1 * c1 * (c1 * (c0 * c1 * c1) * (c0 * c1 * c1) * (δ * δ)) * (c1 * (c0 * c1 * c1) * (c0 * c1 * c1) * (δ * δ)) > 0 := Int.mul_pos (Int.mul_pos hρ hl1) hl1
  constructor
  · intro hF
    have hF' : F' ≠ 0 := by intro z; rw [z,Int.mul_zero] at R3; exact hF R3
    rw [trH_ne hF']
    exact ⟨_,sub_one⟩
  · intro hF
    have hF' : F' = 0 := by
      rcases Int.mul_eq_zero.mp (R3.symm.trans hF) with z | z
      · lia
      · exact z
    rw [hF',trH,if_pos rfl,trH]
    refine ⟨c1 * (c0 * c1 * c1) * (c0 * c1 * c1) * (δ * δ),D',E',by lia,rfl,q1,?_,G4.mono (Nat.le_refl _) (by decide)⟩
    simpa only [sm_cons,sm_nil,List.cons.injEq,and_true] using q2
theorem gcd4 {a b c d A B C : Int} (hf : Gd 100 100 [a,b,c,d]) (ha : a > 0) (h1 : pr (a * 3) [b * 2,c] [a,b,c,d] = [A,B]) (hA : A ≠ 0) (h2 : pr A [B] [a * 3,b * 2,c] = [C]) :
    (C ≠ 0 → ∃ x,subH 6 (primH [a,b,c,d]) (primH [a * 3,b * 2,c]) 1 1 = some [x]) ∧ (C = 0 → ∃ κ l1 l0,κ ≠ 0 ∧ subH 6 (primH [a,b,c,d]) (primH [a * 3,b * 2,c]) 1 1 = some [l1,l0] ∧ κ * l1 = A ∧ κ * l0 = B ∧ Gd 100 1000 [l1,l0]) := by
  have g1 := der_gd hf (by simp)
  rw [der4] at g1
  obtain ⟨c0,p3,ps,hc0,e0,hp3,m4,mr⟩ := prim_sm (r := [b,c,d]) ha
  obtain ⟨c1,δ,us,hc1,e1,hδ,n4,nr⟩ := prim_sm (a := a * 3) (r := [b * 2,c]) (by lia)
  rw [e0,e1]
  have G0 := Gd.prim hc0 m4 mr hf
  have G1 := Gd.prim hc1 n4 nr g1
  obtain ⟨p2,p1,p0,rfl⟩ := len3 (l := ps) (by have := congrArg List.length mr; rwa [sm_length] at this)
  obtain ⟨u,v,rfl⟩ := len2 (l := us) (by have := congrArg List.length nr; rwa [sm_length] at this)
  have R1 := pr_sm δ c0 c1 [u,v] [p3,p2,p1,p0]
  rw [n4,nr,sm_cons,m4,mr,h1] at R1
  have G2 := pr_gd G0 G1
  obtain ⟨A',B',k1⟩ : ∃ A' B',pr δ [u,v] [p3,p2,p1,p0] = [A',B'] := ⟨_,_,rfl⟩
  rw [k1] at R1 G2
  simp only [sm_cons,sm_nil,List.cons.injEq,and_true] at R1
  have hρ : c0 * c1 * c1 > 0 := Int.mul_pos (Int.mul_pos hc0 hc1) hc1
  have hA' : A' ≠ 0 := by
    intro z; rw [z,Int.mul_zero] at R1; exact hA R1.1
  rw [sub_step (n3 := 1) (by lia) rfl G0 G1 (show Sm 1 1 by unfold Sm; decide) (show Sm 1 1 by unfold Sm; decide) (by decide) (by decide) (by decide) (by decide) (by decide),k1,trH_ne hA']
  dsimp only
  rw [divL_one]
  have R2 := pr_sm A' c1 (c0 * c1 * c1) [B'] [δ,u,v]
  have f1' : sm c1 [δ,u,v] = [a * 3,b * 2,c] := by rw [sm_cons,n4,nr]
  have fB : sm (c0 * c1 * c1) [B'] = [B] := by
    simp only [sm_cons,sm_nil,R1.2]
  rw [← R1.1,fB,f1',h2] at R2
  have sδ := G1.sm δ (.head _)
  rw [sub_step (n3 := 103) hA' rfl G1 G2 sδ sδ (by decide) (by decide) (by decide) (by lia) (by lia)]
  obtain ⟨C',k2⟩ : ∃ C',pr A' [B'] [δ,u,v] = [C'] := ⟨_,rfl⟩
  rw [k2] at R2 ⊢
  simp only [sm_cons,sm_nil,List.cons.injEq,and_true] at R2
  have hκ : c1 * (c0 * c1 * c1) * (c0 * c1 * c1) > 0 := Int.mul_pos (Int.mul_pos hc1 hρ) hρ
  constructor
  · intro hF
    have hF' : C' ≠ 0 := by intro z; rw [z,Int.mul_zero] at R2; exact hF R2
    rw [trH_ne hF']
    exact ⟨_,sub_one⟩
  · intro hF
    have hF' : C' = 0 := by
      rcases Int.mul_eq_zero.mp (R2.symm.trans hF) with z | z
      · lia
      · exact z
    rw [hF',trH,if_pos rfl,trH]
    exact ⟨c0 * c1 * c1,A',B',by lia,rfl,R1.1.symm,R1.2.symm,G2.mono (Nat.le_refl _) (by decide)⟩
theorem gcd3 {a b c A : Int} (hf : Gd 100 100 [a,b,c]) (ha : a > 0) (h1 : pr (a * 2) [b] [a,b,c] = [A]) (hA : A ≠ 0) :
    ∃ x,subH 5 (primH [a,b,c]) (primH [a * 2,b]) 1 1 = some [x] := by
  have g1 := der_gd hf (by simp)
  rw [der3] at g1
  obtain ⟨c0,p2,ps,hc0,e0,hp3,m4,mr⟩ := prim_sm (r := [b,c]) ha
  obtain ⟨c1,δ,us,hc1,e1,hδ,n4,nr⟩ := prim_sm (a := a * 2) (r := [b]) (by lia)
  rw [e0,e1]
  have G0 := Gd.prim hc0 m4 mr hf
  have G1 := Gd.prim hc1 n4 nr g1
  obtain ⟨p1,p0,rfl⟩ := len2 (l := ps) (by have := congrArg List.length mr; rwa [sm_length] at this)
  obtain ⟨u,rfl⟩ := len1 (l := us) (by have := congrArg List.length nr; rwa [sm_length] at this)
  have R1 := pr_sm δ c0 c1 [u] [p2,p1,p0]
  rw [n4,nr,sm_cons,m4,mr,h1] at R1
  obtain ⟨A',k1⟩ : ∃ A',pr δ [u] [p2,p1,p0] = [A'] := ⟨_,rfl⟩
  rw [k1] at R1
  simp only [sm_cons,sm_nil,List.cons.injEq,and_true] at R1
  have hA' : A' ≠ 0 := by
    intro z; rw [z,Int.mul_zero] at R1; exact hA R1
  rw [sub_step (n3 := 1) (by lia) rfl G0 G1 (show Sm 1 1 by unfold Sm; decide) (show Sm 1 1 by unfold Sm; decide) (by decide) (by decide) (by decide) (by decide) (by decide),k1,trH_ne hA']
  exact ⟨_,sub_one⟩
theorem simp_normal {a d x : Int} {r ds : List Int} (hd : derH (a :: r) = d :: ds) (hd0 : d ≠ 0) (h : subH ((d :: ds).length + 3) (primH (a :: r)) (primH (d :: ds)) 1 1 = some [x]) : simpH (a :: r) = some (a :: r) := by
  have hz : zgcdH (a :: r) (d :: ds) = some [(numH (a :: r) (d :: ds) : Int)] := by
    unfold zgcdH; rw [h]
  unfold simpH
  rw [hd]
  dsimp only
  rw [if_pos hd0,hz]
end Mine
end
section
open PySem PySem.W PyProof.Rows
set_option exponentiation.threshold 10000
namespace Mine
theorem prim_line {l1 l0 v w : Int} (hv : v > 0) (h : l1 * w = l0 * v) (hl : l1 ≠ 0) (hc : Nat.gcd v.natAbs w.natAbs = 1) : primH [l1,l0] = [v,w] := by
  have d1 : v.natAbs ∣ l1.natAbs := by
    have : v.natAbs ∣ l1.natAbs * w.natAbs := by
      rw [← Int.natAbs_mul,h,Int.natAbs_mul]; exact Nat.dvd_mul_left _ _
    exact Nat.Coprime.dvd_of_dvd_mul_right hc this
  obtain ⟨t,ht⟩ : v ∣ l1 := Int.natAbs_dvd_natAbs.mp d1
  subst ht
  have h0 : l0 = t * w := by
    have : v * l0 = v * (t * w) := by rw [Int.mul_comm v l0,← h]; grind
    exact Int.eq_of_mul_eq_mul_left (by lia) this
  subst h0
  have ht0 : t ≠ 0 := by intro z; rw [z,Int.mul_zero] at hl; exact hl rfl
  have hg : gcdL 0 [v * t,t * w] = t.natAbs := by
    simp only [gcdL,Nat.gcd_zero_left,Int.natAbs_mul]
    rw [Nat.mul_comm v.natAbs,Nat.gcd_mul_left,hc,Nat.mul_one]
  unfold primH
  dsimp only
  rw [hg]
  by_cases hp : t > 0
  · have : v * t > 0 := Int.mul_pos hv hp
    rw [if_pos this]
    have e : ((t.natAbs : Nat) : Int) = t := by lia
    rw [e]
    simp only [divL,List.map_cons,List.map_nil]
    rw [Int.mul_comm v t,Int.mul_fdiv_cancel_left _ ht0,Int.mul_fdiv_cancel_left _ ht0]
  · have : ¬ v * t > 0 := by have := Int.mul_neg_of_pos_of_neg hv (show t < 0 by lia); lia
    rw [if_neg this]
    have e : -((t.natAbs : Nat) : Int) = t := by lia
    rw [e]
    simp only [divL,List.map_cons,List.map_nil]
    rw [Int.mul_comm v t,Int.mul_fdiv_cancel_left _ ht0,Int.mul_fdiv_cancel_left _ ht0]
noncomputable def cz (y z : Int) : Int → List Int → List Int
  | c,[] => [c]
  | c,g :: gs => (c + y * g) :: cz y z (z * g) gs
theorem cz_gd {y z : Int} {m k : Nat} (hy : Sm m y) (hz : Sm m z) : ∀ (gs : List Int) (c : Int),Sm (m + k) c → (∀ g ∈ gs,Sm k g) → ∀ x ∈ cz y z c gs,Sm (m + k + 1) x
  | [],c,hc,_,x,hx => by rw [cz,List.mem_singleton] at hx; rw [hx]; exact hc.mono (by lia)
  | g :: gs,c,hc,hg,x,hx => by
    rw [cz] at hx
    cases hx with
    | head => exact hc.add (hy.mul (hg g (.head _)))
    | tail _ q => exact cz_gd hy hz gs (z * g) (hz.mul (hg g (.head _))) (fun u v => hg u (.tail _ v)) x q
theorem cz_length {y z : Int} : ∀ (gs : List Int) (c : Int),(cz y z c gs).length = gs.length + 1
  | [],_ => rfl
  | g :: gs,c => by rw [cz,List.length_cons,cz_length gs]; rfl
theorem rnd_one_nil (x : Int) : ∀ l,rnd 1 x l [] = l
  | [] => rfl
  | a :: r => by rw [rnd,rnd_one_nil x r,Int.one_mul]
theorem cz_round {y z g : Int} (gs : List Int) : rnd 1 g (cz y z (z * g) gs) [z] = cz y z 0 gs := by
  cases gs with
  | nil => simp only [cz,rnd]; congr 1; grind
  | cons h hs =>
    simp only [cz,rnd,rnd_one_nil]
    congr 1; grind
theorem ex_gen {y z : Int} {m k : Nat} (hy : y ≠ 0) (sy : Sm m y) (sz : Sm m z) (hm : m + k + 1 ≤ 4000) : ∀ (gs : List Int) (fuel : Nat) (done : List Int),gs.length < fuel → (∀ g ∈ gs,Sm k g) → gs.length + done.length ≤ 99 →
    exGo y [z] fuel (trH (cz y z 0 gs)) (List.replicate gs.length 0 ++ done) = some (trimP (gs.reverse ++ done))
  | [],fuel,done,hf,_,_ => by
    obtain ⟨f,rfl⟩ : ∃ f,fuel = f + 1 := ⟨fuel - 1,by simp at hf; lia⟩
    rw [cz,trH,if_pos rfl,trH,exGo]
    rfl
  | g :: gs,fuel,done,hf,hg,hl => by
    simp only [List.length_cons] at hf hl
    rw [cz,Int.zero_add]
    by_cases h0 : g = 0
    · subst h0
      have ih := ex_gen hy sy sz hm gs fuel (0 :: done) (by lia) (fun u v => hg u (.tail _ v)) (by simp; lia)
      rw [Int.mul_zero,trH,if_pos rfl,Int.mul_zero]
      rw [List.length_cons,List.replicate_succ',List.append_assoc,List.reverse_cons,List.append_assoc]
      exact ih
    · obtain ⟨f,rfl⟩ : ∃ f,fuel = f + 1 := ⟨fuel - 1,by lia⟩
      have ih := ex_gen hy sy sz hm gs f (g :: done) (by lia) (fun u v => hg u (.tail _ v)) (by simp; lia)
      rw [trH_ne (Int.mul_ne_zero hy h0),exGo]
      have cl := cz_length (y := y) (z := z) gs (z * g)
      have sg := hg g (.head _)
      have g1 : gdB [y,z] = true := gd_gdB ⟨by simp,fun x hx => by
        simp only [List.mem_cons,List.not_mem_nil,or_false] at hx
        rcases hx with rfl | rfl
        · exact sy.mono (by lia)
        · exact sz.mono (by lia)⟩
      have g2 : gdB (y * g :: cz y z (z * g) gs) = true := gd_gdB ⟨by simp [cl]; lia,fun x hx => by
        cases hx with
        | head => exact (sy.mul sg).mono (by lia)
        | tail _ q => exact (cz_gd sy sz gs _ (sz.mul sg) (fun u v => hg u (.tail _ v)) x q).mono hm⟩
      rw [if_pos ⟨by rw [cl]; simp,by simp,g1,g2,by rw [Int.mul_fdiv_cancel_left _ hy]; exact sm_smD (sg.mono (by lia)),by rw [cl]; simp; lia,by simp; lia⟩]
      rw [Int.mul_fdiv_cancel_left _ hy,cz_round,cl]
      have hs : (List.replicate (g :: gs).length (0 : Int) ++ done).set (gs.length + 1 - [z].length) g = List.replicate gs.length 0 ++ g :: done := by
        rw [List.length_cons,List.replicate_succ',List.append_assoc,List.length_singleton,Nat.add_sub_cancel,List.set_append_right _ _ (by simp)]
        simp
      rw [hs,ih,List.reverse_cons,List.append_assoc]
      rfl
theorem simp_double {v w K g d : Int} {gs ds f0 : List Int} {l1 l0 : Int} (hf0 : f0 = cz (v * K) (w * K) 0 (g :: gs)) (hd : derH f0 = d :: ds) (hd0 : d ≠ 0) (hsub : subH ((d :: ds).length + 3) (primH f0) (primH (d :: ds)) 1 1 = some [l1,l0])
    (hv : v > 0) (hl : l1 * w = l0 * v) (hl1 : l1 ≠ 0) (hc : Nat.gcd v.natAbs w.natAbs = 1) (hK : (numH f0 (d :: ds) : Int) = K) (hK0 : K ≠ 0) (hg : g ≠ 0) (sv : Sm 100 v) (sw : Sm 100 w) (sK : Sm 100 K) (sg : ∀ x ∈ g :: gs,Sm 1000 x) (hlen : gs.length ≤ 20) : simpH f0 = some (g :: gs) := by
  have hp := prim_line hv hl hl1 hc
  have hz : zgcdH f0 (d :: ds) = some [v * K,w * K] := by
    unfold zgcdH
    rw [hsub]
    dsimp only
    rw [hp]
    have g1 : gdB [v,w] = true := gd_gdB ⟨by simp,fun x hx => by
      simp only [List.mem_cons,List.not_mem_nil,or_false] at hx
      rcases hx with rfl | rfl
      · exact sv.mono (by decide)
      · exact sw.mono (by decide)⟩
    rw [if_pos ⟨hl1,g1,by rw [hK]; exact sm_smD (sK.mono (by decide)),by simp⟩,hK]
    unfold scaleP
    rw [if_neg hK0]
    rfl
  have fl : f0.length = gs.length + 2 := by rw [hf0,cz_length]; rfl
  have he : exH f0 (v * K) [w * K] = some (g :: gs).reverse := by
    unfold exH
    have := ex_gen (m := 200) (k := 1000) (Int.mul_ne_zero (by lia) hK0) (sv.mul sK) (sw.mul sK) (by decide) (g :: gs) (f0.length + 3) [] (by rw [fl,List.length_cons]; lia) sg (by simp; lia)
    rw [← hf0] at this
    have ht : trH f0 = f0 := by
      rw [hf0,cz,Int.zero_add,trH_ne (Int.mul_ne_zero (Int.mul_ne_zero (by lia) hK0) hg)]
    rw [ht,List.append_nil,List.append_nil] at this
    rw [fl,List.length_singleton]
    rw [fl,List.length_cons] at this
    rw [show gs.length + 2 - 1 = gs.length + 1 by lia,this,List.reverse_cons,trimP_snoc _ _ hg]
  unfold simpH
  rw [hd]
  dsimp only
  rw [if_pos hd0,hz]
  dsimp only
  rw [if_pos ⟨Int.mul_ne_zero (by lia) hK0,by rw [fl]; simp⟩,he]
  simp
end Mine
end
section
open PySem PySem.W PyProof.Rows
set_option exponentiation.threshold 10000
set_option maxRecDepth 100000
namespace Mine
noncomputable def Rn (W n : Nat) (x : Int) : Prop := ∃ k : Int,(n : Int) = x + W * k
theorem Rn.ofNat {W : Nat} (n : Nat) : Rn W n (n : Int) := ⟨0,by simp⟩
theorem Rn.add {W n m : Nat} {x y : Int} (h : Rn W n x) (h' : Rn W m y) : Rn W (Nat.add n m) (x + y) := by
  obtain ⟨k,h⟩ := h
  obtain ⟨l,h'⟩ := h'
  exact ⟨k + l,by show ((n + m : Nat) : Int) = _; rw [Int.natCast_add,h,h']; grind⟩
theorem Rn.mul {W n m : Nat} {x y : Int} (h : Rn W n x) (h' : Rn W m y) : Rn W (Nat.mul n m) (x * y) := by
  obtain ⟨k,h⟩ := h
  obtain ⟨l,h'⟩ := h'
  exact ⟨x * l + k * y + W * k * l,by show ((n * m : Nat) : Int) = _; rw [Int.natCast_mul,h,h']; grind⟩
theorem Rn.mod {W n : Nat} {x : Int} (h : Rn W n x) : Rn W (Nat.mod n W) x := by
  obtain ⟨k,h⟩ := h
  refine ⟨k - ((n / W : Nat) : Int),?_⟩
  show ((n % W : Nat) : Int) = _
  have := Nat.div_add_mod n W
  have e : (n : Int) = W * ((n / W : Nat) : Int) + ((n % W : Nat) : Int) := by rw [← Int.natCast_mul,← Int.natCast_add,this]
  grind
theorem Rn.sub {W M n m : Nat} {x y : Int} (hM : M + 1 = W) (h : Rn W n x) (h' : Rn W m y) : Rn W (Nat.add n (Nat.mul M m)) (x - y) := by
  obtain ⟨k,h⟩ := h
  obtain ⟨l,h'⟩ := h'
  refine ⟨k + M * l + y,?_⟩
  show ((n + M * m : Nat) : Int) = _
  rw [Int.natCast_add,Int.natCast_mul,h,h']
  have : (W : Int) = M + 1 := by lia
  grind
theorem Rn.neg {W M n : Nat} {x : Int} (hM : M + 1 = W) (h : Rn W n x) : Rn W (Nat.mul M n) (-x) := by
  have := Rn.sub hM (Rn.ofNat (W := W) 0) h
  simp only [Nat.add_eq,Nat.zero_add] at this
  rw [show ((0 : Nat) : Int) - x = -x by lia] at this
  exact this
theorem Rn.val {W n : Nat} {x : Int} (hW : 0 < W) (h : Rn W n x) : ((n % W : Nat) : Int) = x % (W : Int) := by
  obtain ⟨k,h⟩ := h
  rw [Int.natCast_emod,h,Int.add_mul_emod_self_left]
structure Mods (W M H : Nat) : Prop where
  m : M + 1 = W
  h : H + H = W
  b : 2 ^ 500 ≤ H
theorem Mods.pos {W M H : Nat} (q : Mods W M H) : 0 < H := Nat.lt_of_lt_of_le (Nat.pow_pos (by decide)) q.b
theorem Mods.lt {W M H n : Nat} (q : Mods W M H) {x : Int} (h : Sm n x) (hn : n ≤ 500) : x.natAbs < H := Nat.lt_of_lt_of_le (h.mono hn) q.b
noncomputable def sg (W M H n : Nat) : Nat := Nat.add (Nat.div (Nat.add (Nat.mod n W) M) W) (Nat.div (Nat.mod n W) H)
noncomputable def cd (s : Int) : Nat := if s = 1 then 1 else if s = -1 then 2 else 0
noncomputable def dcS (n : Nat) : Int := if n = 1 then 1 else if n = 2 then -1 else 0
theorem sgnI_cases (x : Int) : sgnI x = 1 ∧ x > 0 ∨ sgnI x = -1 ∧ x < 0 ∨ sgnI x = 0 ∧ x = 0 := by
  unfold sgnI
  split
  · exact .inl ⟨rfl,by assumption⟩
  · split
    · exact .inr (.inl ⟨rfl,by assumption⟩)
    · exact .inr (.inr ⟨rfl,by lia⟩)
theorem cd_lt (x : Int) : cd (sgnI x) < 3 := by
  rcases sgnI_cases x with h | h | h <;> rw [h.1] <;> decide
theorem dc_cd (x : Int) : dcS (cd (sgnI x)) = sgnI x := by
  rcases sgnI_cases x with h | h | h <;> rw [h.1] <;> decide
theorem emod_of {W M H n : Nat} {x : Int} (q : Mods W M H) (h : Rn W n x) (hl : x.natAbs < H) : n % W = if 0 ≤ x then x.natAbs else W - x.natAbs := by
  have hp := q.pos
  have hh := q.h
  have v := h.val (by lia)
  clear q h
  split
  · rename_i h0
    rw [Int.emod_eq_of_lt h0 (by lia)] at v
    lia
  · rename_i h0
    have : x % (W : Int) = x + W := by
      rw [← Int.add_emod_right]
      exact Int.emod_eq_of_lt (by lia) (by lia)
    rw [this] at v
    lia
theorem sg_spec {W M H n k : Nat} {x : Int} (q : Mods W M H) (h : Rn W n x) (hx : Sm k x) (hk : k ≤ 500) : sg W M H n = cd (sgnI x) := by
  have hp := q.pos
  have hl := q.lt hx hk
  have hm := q.m
  have hh := q.h
  have e := emod_of q h hl
  show (n % W + M) / W + (n % W) / H = _
  rw [e]
  rcases sgnI_cases x with h | h | h
  · rw [h.1,if_pos (by lia)]
    have h1 : (x.natAbs + M) / W = 1 := Nat.div_eq_of_lt_le (by lia) (by lia)
    have h2 : x.natAbs / H = 0 := Nat.div_eq_of_lt hl
    rw [h1,h2]; rfl
  · rw [h.1,if_neg (by lia)]
    have h1 : (W - x.natAbs + M) / W = 1 := Nat.div_eq_of_lt_le (by lia) (by lia)
    have h2 : (W - x.natAbs) / H = 1 := Nat.div_eq_of_lt_le (by lia) (by lia)
    rw [h1,h2]; rfl
  · rw [h.1,if_pos (by lia),h.2]
    have h1 : (Int.natAbs 0 + M) / W = 0 := Nat.div_eq_of_lt (by simp; lia)
    have h2 : Int.natAbs 0 / H = 0 := Nat.div_eq_of_lt (by simp; lia)
    rw [h1,h2]; rfl
noncomputable def tab : Nat := 45601260659496142839316936585727775904358641503023694057047214056456291632351771750122450183813391300134360131796023708504524560783779016357669048730561605877239795128610797144801888339487786854970001294340343619158016
noncomputable def ch (T s0 s1 s2 s3 s4 : Nat) : Nat := Nat.mod (Nat.div T (Nat.pow (nat_lit 8) (Nat.add s0 (Nat.mul (nat_lit 3) (Nat.add s1 (Nat.mul (nat_lit 3) (Nat.add s2 (Nat.mul (nat_lit 3) (Nat.add s3 (Nat.mul (nat_lit 3) s4)))))))))) (nat_lit 8)
theorem ch_all : (List.range 3).all (fun s0 => (List.range 3).all fun s1 => (List.range 3).all fun s2 => (List.range 3).all fun s3 => (List.range 3).all fun s4 => ch tab s0 s1 s2 s3 s4 == chS [dcS s0,dcS s1,dcS s2,dcS s3,dcS s4]) = true := by decide +kernel
theorem ch_spec (x0 x1 x2 x3 x4 : Int) : ch tab (cd (sgnI x0)) (cd (sgnI x1)) (cd (sgnI x2)) (cd (sgnI x3)) (cd (sgnI x4)) = chS [sgnI x0,sgnI x1,sgnI x2,sgnI x3,sgnI x4] := by
  have h := ch_all
  simp only [List.all_eq_true,List.mem_range,beq_iff_eq] at h
  have := h _ (cd_lt x0) _ (cd_lt x1) _ (cd_lt x2) _ (cd_lt x3) _ (cd_lt x4)
  rw [this]
  simp only [dc_cd]
theorem chS_zero (l : List Int) : chS (l ++ [0]) = chS l := by
  unfold chS; simp
theorem sgnI_zero : sgnI 0 = 0 := rfl
theorem ch_spec4 (x0 x1 x2 x3 : Int) : ch tab (cd (sgnI x0)) (cd (sgnI x1)) (cd (sgnI x2)) (cd (sgnI x3)) (nat_lit 0) = chS [sgnI x0,sgnI x1,sgnI x2,sgnI x3] := by
  rw [← chS_zero]; exact ch_spec x0 x1 x2 x3 0
theorem ch_spec3 (x0 x1 x2 : Int) : ch tab (cd (sgnI x0)) (cd (sgnI x1)) (cd (sgnI x2)) (nat_lit 0) (nat_lit 0) = chS [sgnI x0,sgnI x1,sgnI x2] := by
  rw [← chS_zero]; exact ch_spec4 x0 x1 x2 0
theorem ch_spec2 (x0 x1 : Int) : ch tab (cd (sgnI x0)) (cd (sgnI x1)) (nat_lit 0) (nat_lit 0) (nat_lit 0) = chS [sgnI x0,sgnI x1] := by
  rw [← chS_zero]; exact ch_spec3 x0 x1 0
theorem chL_eq (row : List Int) : chL row = chS (row.map sgnI) := by
  have key : ∀ l : List Int,(∀ x ∈ l,x ≠ 0) → adj (fun a b => decide (a * b < 0)) l = adj (fun a b => !(b == a)) (l.map sgnI) := by
    intro l
    induction l with
    | nil => intro _; rfl
    | cons a r ih =>
      intro h
      cases r with
      | nil => rfl
      | cons b r =>
        have ih' := ih fun x q => h x (.tail _ q)
        simp only [List.map_cons] at ih' ⊢
        rw [adj,adj,ih']
        congr 1
        have ha := h a (.head _)
        have hb := h b (.tail _ (.head _))
        rcases sgnI_cases a with u | u | u <;> rcases sgnI_cases b with v | v | v <;> rw [u.1,v.1] <;> try lia
        · have : ¬ a * b < 0 := by have := Int.mul_pos u.2 v.2; lia
          rw [decide_eq_false this]; rfl
        · have := Int.mul_neg_of_pos_of_neg u.2 v.2
          rw [decide_eq_true this]; rfl
        · have := Int.mul_neg_of_neg_of_pos u.2 v.2
          rw [decide_eq_true this]; rfl
        · have : ¬ a * b < 0 := by have := Int.mul_pos_of_neg_of_neg u.2 v.2; lia
          rw [decide_eq_false this]; rfl
  have fl : ∀ l : List Int,(l.map sgnI).filter (fun x => !(x == 0)) = (l.filter fun x => !(x == 0)).map sgnI := by
    intro l
    rw [List.filter_map]
    congr 1
    refine List.filter_congr fun x _ => ?_
    simp only [Function.comp]
    rcases sgnI_cases x with u | u | u <;> rw [u.1]
    · have : (x == 0) = false := by simp; lia
      rw [this]; rfl
    · have : (x == 0) = false := by simp; lia
      rw [this]; rfl
    · rw [u.2]
  unfold chL chS
  rw [fl]
  exact key _ fun x hx => by simpa using (List.mem_filter.mp hx).2
end Mine
end
section
open PySem PySem.W PyProof.Rows
set_option exponentiation.threshold 10000
set_option maxRecDepth 100000
namespace Mine
noncomputable def SturmOk (f : List Int) (u : Nat) : Prop := ∃ g,simpH f = some g ∧ stH g = some (u : Int)
noncomputable def ck (l : List Int) : Nat := chS ((rowL l).map sgnI)
structure RowsOk (c0 c1 c2 m0 m1 m2 m3 : Nat) : Prop where
  a0 : m0 ≤ c0
  a1 : m1 ≤ c1
  a2 : m2 ≤ c2
  b0 : (c0 - m0) % 2 = 0
  b1 : (c1 - m1) % 2 = 0
  b2 : (c2 - m2) % 2 = 0
  g : c1 + c2 + m3 ≤ c0
  p : (c0 - (c1 + c2 + m3)) % 2 = 0
theorem bd20 {x : Int} (h : -20000 ≤ x ∧ x ≤ 20000) : Bd x := by unfold Bd; lia
theorem sm40 {x : Int} (h : -1000000000000 ≤ x ∧ x ≤ 1000000000000) : Sm 40 x := by unfold Sm; lia
theorem rev_2 (a b : Int) : shL [b,a] = (rowL [a,b]).reverse := by
  simp only [shL_2,shL_3,shL_4,shL_5,rowL_2,rowL_3,rowL_4,rowL_5,List.reverse_cons,List.reverse_nil,List.nil_append,List.cons_append,List.cons.injEq,and_true]
  lia
theorem half_2 {a b : Int} (ha : Bd a) (hb : Bd b) {many : Nat} (h1 : many ≤ ck [a,b]) (h2 : (ck [a,b] - many) % 2 = 0) : HalfOk [a,b] many (ck [a,b]) := by
  refine ⟨⟨rowL [a,b],row_2 ha hb,?_,?_,btw_2 ha hb⟩,h1,h2⟩
  · rw [← rev_2]
    exact sh_2 hb ha
  · unfold ck
    rw [← chL_eq]
    exact e_law_changes ⟨by simp [rowL_2,rowL_3,rowL_4,rowL_5],fun x hx => (rowB_2 ha hb x hx).mono (by decide)⟩
theorem law_2 {parts : List (List Int)} {a b : Int} (ha : -20000 ≤ a ∧ a ≤ 20000) (hb : -20000 ≤ b ∧ b ≤ 20000) (hb0 : b ≠ 0) (hp : ∀ p ∈ parts,p ≠ [] ∧ Gd 10 10 p) (hpl : parts.length ≤ 3) (hf : parts.foldl mulL [1] = [a,b]) (hln : ∀ x ∈ linesOf parts,LnOk x)
    (hR : RowsOk (ck [a,b]) (ck (leftL [a,b])) (ck (shL (leftL [a,b]))) (cntL q0 (linesOf parts)) (cntL q1 (linesOf parts)) (cntL q2 (linesOf parts)) (cntL q3 (linesOf parts))) (hS : SturmOk [b,a] (unlL (linesOf parts))) : lawOf (.list (parts.map pvI)) = some (.bool true) := by
  obtain ⟨a0,a1,a2,b0,b1,b2,g,p⟩ := hR
  obtain ⟨w,hw1,hw2⟩ := hS
  refine law_of (fl := leftL [a,b]) (fh := shL (leftL [a,b])) hp hpl hf ?_ ?_ hln (half_2 (bd20 ha) (bd20 hb) a0 b0) (half_2 (by unfold Bd; lia) (by unfold Bd; lia) a1 b1) (half_2 (by unfold Bd; lia) (by unfold Bd; lia) a2 b2) g p ?_
  · intro s0 s1 s2 s4 r
    exact left_2 (bd20 ha) (bd20 hb)
  · exact sh_2 (by unfold Bd; lia) (by unfold Bd; lia)
  · exact e_count_roots (a := b) (r := [a]) hb0 ⟨by simp,fun x hx => (sm40 (by simp only [List.mem_cons,List.not_mem_nil,or_false] at hx; lia)).mono (by decide)⟩ hw1 hw2
theorem rev_3 (a b c : Int) : shL [c,b,a] = (rowL [a,b,c]).reverse := by
  simp only [shL_2,shL_3,shL_4,shL_5,rowL_2,rowL_3,rowL_4,rowL_5,List.reverse_cons,List.reverse_nil,List.nil_append,List.cons_append,List.cons.injEq,and_true]
  lia
theorem half_3 {a b c : Int} (ha : Bd a) (hb : Bd b) (hc : Bd c) {many : Nat} (h1 : many ≤ ck [a,b,c]) (h2 : (ck [a,b,c] - many) % 2 = 0) : HalfOk [a,b,c] many (ck [a,b,c]) := by
  refine ⟨⟨rowL [a,b,c],row_3 ha hb hc,?_,?_,btw_3 ha hb hc⟩,h1,h2⟩
  · rw [← rev_3]
    exact sh_3 hc hb ha
  · unfold ck
    rw [← chL_eq]
    exact e_law_changes ⟨by simp [rowL_2,rowL_3,rowL_4,rowL_5],fun x hx => (rowB_3 ha hb hc x hx).mono (by decide)⟩
theorem law_3 {parts : List (List Int)} {a b c : Int} (ha : -20000 ≤ a ∧ a ≤ 20000) (hb : -20000 ≤ b ∧ b ≤ 20000) (hc : -20000 ≤ c ∧ c ≤ 20000) (hc0 : c ≠ 0) (hp : ∀ p ∈ parts,p ≠ [] ∧ Gd 10 10 p) (hpl : parts.length ≤ 3) (hf : parts.foldl mulL [1] = [a,b,c]) (hln : ∀ x ∈ linesOf parts,LnOk x)
    (hR : RowsOk (ck [a,b,c]) (ck (leftL [a,b,c])) (ck (shL (leftL [a,b,c]))) (cntL q0 (linesOf parts)) (cntL q1 (linesOf parts)) (cntL q2 (linesOf parts)) (cntL q3 (linesOf parts))) (hS : SturmOk [c,b,a] (unlL (linesOf parts))) : lawOf (.list (parts.map pvI)) = some (.bool true) := by
  obtain ⟨a0,a1,a2,b0,b1,b2,g,p⟩ := hR
  obtain ⟨w,hw1,hw2⟩ := hS
  refine law_of (fl := leftL [a,b,c]) (fh := shL (leftL [a,b,c])) hp hpl hf ?_ ?_ hln (half_3 (bd20 ha) (bd20 hb) (bd20 hc) a0 b0) (half_3 (by unfold Bd; lia) (by unfold Bd; lia) (by unfold Bd; lia) a1 b1) (half_3 (by unfold Bd; lia) (by unfold Bd; lia) (by unfold Bd; lia) a2 b2) g p ?_
  · intro s0 s1 s2 s4 r
    exact left_3 (bd20 ha) (bd20 hb) (bd20 hc)
  · exact sh_3 (by unfold Bd; lia) (by unfold Bd; lia) (by unfold Bd; lia)
  · exact e_count_roots (a := c) (r := [b,a]) hc0 ⟨by simp,fun x hx => (sm40 (by simp only [List.mem_cons,List.not_mem_nil,or_false] at hx; lia)).mono (by decide)⟩ hw1 hw2
theorem rev_4 (a b c d : Int) : shL [d,c,b,a] = (rowL [a,b,c,d]).reverse := by
  simp only [shL_2,shL_3,shL_4,shL_5,rowL_2,rowL_3,rowL_4,rowL_5,List.reverse_cons,List.reverse_nil,List.nil_append,List.cons_append,List.cons.injEq,and_true]
  lia
theorem half_4 {a b c d : Int} (ha : Bd a) (hb : Bd b) (hc : Bd c) (hd : Bd d) {many : Nat} (h1 : many ≤ ck [a,b,c,d]) (h2 : (ck [a,b,c,d] - many) % 2 = 0) : HalfOk [a,b,c,d] many (ck [a,b,c,d]) := by
  refine ⟨⟨rowL [a,b,c,d],row_4 ha hb hc hd,?_,?_,btw_4 ha hb hc hd⟩,h1,h2⟩
  · rw [← rev_4]
    exact sh_4 hd hc hb ha
  · unfold ck
    rw [← chL_eq]
    exact e_law_changes ⟨by simp [rowL_2,rowL_3,rowL_4,rowL_5],fun x hx => (rowB_4 ha hb hc hd x hx).mono (by decide)⟩
theorem law_4 {parts : List (List Int)} {a b c d : Int} (ha : -20000 ≤ a ∧ a ≤ 20000) (hb : -20000 ≤ b ∧ b ≤ 20000) (hc : -20000 ≤ c ∧ c ≤ 20000) (hd : -20000 ≤ d ∧ d ≤ 20000) (hd0 : d ≠ 0) (hp : ∀ p ∈ parts,p ≠ [] ∧ Gd 10 10 p) (hpl : parts.length ≤ 3) (hf : parts.foldl mulL [1] = [a,b,c,d]) (hln : ∀ x ∈ linesOf parts,LnOk x)
    (hR : RowsOk (ck [a,b,c,d]) (ck (leftL [a,b,c,d])) (ck (shL (leftL [a,b,c,d]))) (cntL q0 (linesOf parts)) (cntL q1 (linesOf parts)) (cntL q2 (linesOf parts)) (cntL q3 (linesOf parts))) (hS : SturmOk [d,c,b,a] (unlL (linesOf parts))) : lawOf (.list (parts.map pvI)) = some (.bool true) := by
  obtain ⟨a0,a1,a2,b0,b1,b2,g,p⟩ := hR
  obtain ⟨w,hw1,hw2⟩ := hS
  refine law_of (fl := leftL [a,b,c,d]) (fh := shL (leftL [a,b,c,d])) hp hpl hf ?_ ?_ hln (half_4 (bd20 ha) (bd20 hb) (bd20 hc) (bd20 hd) a0 b0) (half_4 (by unfold Bd; lia) (by unfold Bd; lia) (by unfold Bd; lia) (by unfold Bd; lia) a1 b1) (half_4 (by unfold Bd; lia) (by unfold Bd; lia) (by unfold Bd; lia) (by unfold Bd; lia) a2 b2) g p ?_
  · intro s0 s1 s2 s4 r
    exact left_4 (bd20 ha) (bd20 hb) (bd20 hc) (bd20 hd)
  · exact sh_4 (by unfold Bd; lia) (by unfold Bd; lia) (by unfold Bd; lia) (by unfold Bd; lia)
  · exact e_count_roots (a := d) (r := [c,b,a]) hd0 ⟨by simp,fun x hx => (sm40 (by simp only [List.mem_cons,List.not_mem_nil,or_false] at hx; lia)).mono (by decide)⟩ hw1 hw2
theorem rev_5 (a b c d e : Int) : shL [e,d,c,b,a] = (rowL [a,b,c,d,e]).reverse := by
  simp only [shL_2,shL_3,shL_4,shL_5,rowL_2,rowL_3,rowL_4,rowL_5,List.reverse_cons,List.reverse_nil,List.nil_append,List.cons_append,List.cons.injEq,and_true]
  lia
theorem half_5 {a b c d e : Int} (ha : Bd a) (hb : Bd b) (hc : Bd c) (hd : Bd d) (he : Bd e) {many : Nat} (h1 : many ≤ ck [a,b,c,d,e]) (h2 : (ck [a,b,c,d,e] - many) % 2 = 0) : HalfOk [a,b,c,d,e] many (ck [a,b,c,d,e]) := by
  refine ⟨⟨rowL [a,b,c,d,e],row_5 ha hb hc hd he,?_,?_,btw_5 ha hb hc hd he⟩,h1,h2⟩
  · rw [← rev_5]
    exact sh_5 he hd hc hb ha
  · unfold ck
    rw [← chL_eq]
    exact e_law_changes ⟨by simp [rowL_2,rowL_3,rowL_4,rowL_5],fun x hx => (rowB_5 ha hb hc hd he x hx).mono (by decide)⟩
theorem law_5 {parts : List (List Int)} {a b c d e : Int} (ha : -20000 ≤ a ∧ a ≤ 20000) (hb : -20000 ≤ b ∧ b ≤ 20000) (hc : -20000 ≤ c ∧ c ≤ 20000) (hd : -20000 ≤ d ∧ d ≤ 20000) (he : -20000 ≤ e ∧ e ≤ 20000) (he0 : e ≠ 0) (hp : ∀ p ∈ parts,p ≠ [] ∧ Gd 10 10 p) (hpl : parts.length ≤ 3) (hf : parts.foldl mulL [1] = [a,b,c,d,e]) (hln : ∀ x ∈ linesOf parts,LnOk x)
    (hR : RowsOk (ck [a,b,c,d,e]) (ck (leftL [a,b,c,d,e])) (ck (shL (leftL [a,b,c,d,e]))) (cntL q0 (linesOf parts)) (cntL q1 (linesOf parts)) (cntL q2 (linesOf parts)) (cntL q3 (linesOf parts))) (hS : SturmOk [e,d,c,b,a] (unlL (linesOf parts))) : lawOf (.list (parts.map pvI)) = some (.bool true) := by
  obtain ⟨a0,a1,a2,b0,b1,b2,g,p⟩ := hR
  obtain ⟨w,hw1,hw2⟩ := hS
  refine law_of (fl := leftL [a,b,c,d,e]) (fh := shL (leftL [a,b,c,d,e])) hp hpl hf ?_ ?_ hln (half_5 (bd20 ha) (bd20 hb) (bd20 hc) (bd20 hd) (bd20 he) a0 b0) (half_5 (by unfold Bd; lia) (by unfold Bd; lia) (by unfold Bd; lia) (by unfold Bd; lia) (by unfold Bd; lia) a1 b1) (half_5 (by unfold Bd; lia) (by unfold Bd; lia) (by unfold Bd; lia) (by unfold Bd; lia) (by unfold Bd; lia) a2 b2) g p ?_
  · intro s0 s1 s2 s4 r
    exact left_5 (bd20 ha) (bd20 hb) (bd20 hc) (bd20 hd) (bd20 he)
  · exact sh_5 (by unfold Bd; lia) (by unfold Bd; lia) (by unfold Bd; lia) (by unfold Bd; lia) (by unfold Bd; lia)
  · exact e_count_roots (a := e) (r := [d,c,b,a]) he0 ⟨by simp,fun x hx => (sm40 (by simp only [List.mem_cons,List.not_mem_nil,or_false] at hx; lia)).mono (by decide)⟩ hw1 hw2
end Mine
end
section
open PySem PySem.W PyProof.Rows
set_option exponentiation.threshold 10000
set_option maxRecDepth 100000
namespace Mine
noncomputable def SturmN (f : List Int) (u : Nat) : Prop := simpH f = some f ∧ stH f = some (u : Int)
theorem SturmN.ok {f : List Int} {u : Nat} (h : SturmN f u) : SturmOk f u := ⟨f,h.1,h.2⟩
theorem Rn_0 {W : Nat} : Rn W (nat_lit 0) 0 := ⟨0,by simp⟩
theorem Rn_1 {W : Nat} : Rn W (nat_lit 1) 1 := ⟨0,by simp⟩
theorem Rn_2 {W : Nat} : Rn W (nat_lit 2) 2 := ⟨0,by simp⟩
theorem Rn_3 {W : Nat} : Rn W (nat_lit 3) 3 := ⟨0,by simp⟩
theorem Rn_4 {W : Nat} : Rn W (nat_lit 4) 4 := ⟨0,by simp⟩
theorem Rn_6 {W : Nat} : Rn W (nat_lit 6) 6 := ⟨0,by simp⟩
theorem Rn_8 {W : Nat} : Rn W (nat_lit 8) 8 := ⟨0,by simp⟩
theorem Rn_16 {W : Nat} : Rn W (nat_lit 16) 16 := ⟨0,by simp⟩
noncomputable def iA5 (a b c d e : Int) : Int := (((a * 4) * (((a * 4) * c) - (a * (c * 2)))) - ((((a * 4) * b) - (a * (b * 3))) * (b * 3)))
noncomputable def nA5 (W M a b c d e : Nat) : Nat := Nat.mod (Nat.add (Nat.mul (Nat.mul a (nat_lit 4)) (Nat.add (Nat.mul (Nat.mul a (nat_lit 4)) c) (Nat.mul M (Nat.mul a (Nat.mul c (nat_lit 2)))))) (Nat.mul M (Nat.mul (Nat.add (Nat.mul (Nat.mul a (nat_lit 4)) b) (Nat.mul M (Nat.mul a (Nat.mul b (nat_lit 3))))) (Nat.mul b (nat_lit 3))))) W
theorem rA5 {W M a' b' c' d' e' : Nat} {a b c d e : Int} (hM : M + 1 = W) (ra : Rn W a' a) (rb : Rn W b' b) (rc : Rn W c' c) (rd : Rn W d' d) (re : Rn W e' e) : Rn W (nA5 W M a' b' c' d' e') (iA5 a b c d e) := Rn.mod (Rn.sub hM (Rn.mul (Rn.mul ra Rn_4) (Rn.sub hM (Rn.mul (Rn.mul ra Rn_4) rc) (Rn.mul ra (Rn.mul rc Rn_2)))) (Rn.mul (Rn.sub hM (Rn.mul (Rn.mul ra Rn_4) rb) (Rn.mul ra (Rn.mul rb Rn_3))) (Rn.mul rb Rn_3)))
noncomputable def iB5 (a b c d e : Int) : Int := (((a * 4) * (((a * 4) * d) - (a * d))) - ((((a * 4) * b) - (a * (b * 3))) * (c * 2)))
noncomputable def nB5 (W M a b c d e : Nat) : Nat := Nat.mod (Nat.add (Nat.mul (Nat.mul a (nat_lit 4)) (Nat.add (Nat.mul (Nat.mul a (nat_lit 4)) d) (Nat.mul M (Nat.mul a d)))) (Nat.mul M (Nat.mul (Nat.add (Nat.mul (Nat.mul a (nat_lit 4)) b) (Nat.mul M (Nat.mul a (Nat.mul b (nat_lit 3))))) (Nat.mul c (nat_lit 2))))) W
theorem rB5 {W M a' b' c' d' e' : Nat} {a b c d e : Int} (hM : M + 1 = W) (ra : Rn W a' a) (rb : Rn W b' b) (rc : Rn W c' c) (rd : Rn W d' d) (re : Rn W e' e) : Rn W (nB5 W M a' b' c' d' e') (iB5 a b c d e) := Rn.mod (Rn.sub hM (Rn.mul (Rn.mul ra Rn_4) (Rn.sub hM (Rn.mul (Rn.mul ra Rn_4) rd) (Rn.mul ra rd))) (Rn.mul (Rn.sub hM (Rn.mul (Rn.mul ra Rn_4) rb) (Rn.mul ra (Rn.mul rb Rn_3))) (Rn.mul rc Rn_2)))
noncomputable def iC5 (a b c d e : Int) : Int := (((a * 4) * ((a * 4) * e)) - ((((a * 4) * b) - (a * (b * 3))) * d))
noncomputable def nC5 (W M a b c d e : Nat) : Nat := Nat.mod (Nat.add (Nat.mul (Nat.mul a (nat_lit 4)) (Nat.mul (Nat.mul a (nat_lit 4)) e)) (Nat.mul M (Nat.mul (Nat.add (Nat.mul (Nat.mul a (nat_lit 4)) b) (Nat.mul M (Nat.mul a (Nat.mul b (nat_lit 3))))) d))) W
theorem rC5 {W M a' b' c' d' e' : Nat} {a b c d e : Int} (hM : M + 1 = W) (ra : Rn W a' a) (rb : Rn W b' b) (rc : Rn W c' c) (rd : Rn W d' d) (re : Rn W e' e) : Rn W (nC5 W M a' b' c' d' e') (iC5 a b c d e) := Rn.mod (Rn.sub hM (Rn.mul (Rn.mul ra Rn_4) (Rn.mul (Rn.mul ra Rn_4) re)) (Rn.mul (Rn.sub hM (Rn.mul (Rn.mul ra Rn_4) rb) (Rn.mul ra (Rn.mul rb Rn_3))) rd))
noncomputable def iD5 (A B C a b c d : Int) : Int := ((A * ((A * (c * 2)) - ((a * 4) * C))) - (((A * (b * 3)) - ((a * 4) * B)) * B))
noncomputable def nD5 (W M A B C a b c d : Nat) : Nat := Nat.mod (Nat.add (Nat.mul A (Nat.add (Nat.mul A (Nat.mul c (nat_lit 2))) (Nat.mul M (Nat.mul (Nat.mul a (nat_lit 4)) C)))) (Nat.mul M (Nat.mul (Nat.add (Nat.mul A (Nat.mul b (nat_lit 3))) (Nat.mul M (Nat.mul (Nat.mul a (nat_lit 4)) B))) B))) W
theorem rD5 {W M A' B' C' a' b' c' d' : Nat} {A B C a b c d : Int} (hM : M + 1 = W) (rA : Rn W A' A) (rB : Rn W B' B) (rC : Rn W C' C) (ra : Rn W a' a) (rb : Rn W b' b) (rc : Rn W c' c) (rd : Rn W d' d) : Rn W (nD5 W M A' B' C' a' b' c' d') (iD5 A B C a b c d) := Rn.mod (Rn.sub hM (Rn.mul rA (Rn.sub hM (Rn.mul rA (Rn.mul rc Rn_2)) (Rn.mul (Rn.mul ra Rn_4) rC))) (Rn.mul (Rn.sub hM (Rn.mul rA (Rn.mul rb Rn_3)) (Rn.mul (Rn.mul ra Rn_4) rB)) rB))
noncomputable def iE5 (A B C a b c d : Int) : Int := ((A * (A * d)) - (((A * (b * 3)) - ((a * 4) * B)) * C))
noncomputable def nE5 (W M A B C a b c d : Nat) : Nat := Nat.mod (Nat.add (Nat.mul A (Nat.mul A d)) (Nat.mul M (Nat.mul (Nat.add (Nat.mul A (Nat.mul b (nat_lit 3))) (Nat.mul M (Nat.mul (Nat.mul a (nat_lit 4)) B))) C))) W
theorem rE5 {W M A' B' C' a' b' c' d' : Nat} {A B C a b c d : Int} (hM : M + 1 = W) (rA : Rn W A' A) (rB : Rn W B' B) (rC : Rn W C' C) (ra : Rn W a' a) (rb : Rn W b' b) (rc : Rn W c' c) (rd : Rn W d' d) : Rn W (nE5 W M A' B' C' a' b' c' d') (iE5 A B C a b c d) := Rn.mod (Rn.sub hM (Rn.mul rA (Rn.mul rA rd)) (Rn.mul (Rn.sub hM (Rn.mul rA (Rn.mul rb Rn_3)) (Rn.mul (Rn.mul ra Rn_4) rB)) rC))
noncomputable def iF5 (D E A B C : Int) : Int := ((D * (D * C)) - (((D * B) - (A * E)) * E))
noncomputable def nF5 (W M D E A B C : Nat) : Nat := Nat.mod (Nat.add (Nat.mul D (Nat.mul D C)) (Nat.mul M (Nat.mul (Nat.add (Nat.mul D B) (Nat.mul M (Nat.mul A E))) E))) W
theorem rF5 {W M D' E' A' B' C' : Nat} {D E A B C : Int} (hM : M + 1 = W) (rD : Rn W D' D) (rE : Rn W E' E) (rA : Rn W A' A) (rB : Rn W B' B) (rC : Rn W C' C) : Rn W (nF5 W M D' E' A' B' C') (iF5 D E A B C) := Rn.mod (Rn.sub hM (Rn.mul rD (Rn.mul rD rC)) (Rn.mul (Rn.sub hM (Rn.mul rD rB) (Rn.mul rA rE)) rE))
noncomputable def iA4 (a b c d : Int) : Int := (((a * 3) * (((a * 3) * c) - (a * c))) - ((((a * 3) * b) - (a * (b * 2))) * (b * 2)))
noncomputable def nA4 (W M a b c d : Nat) : Nat := Nat.mod (Nat.add (Nat.mul (Nat.mul a (nat_lit 3)) (Nat.add (Nat.mul (Nat.mul a (nat_lit 3)) c) (Nat.mul M (Nat.mul a c)))) (Nat.mul M (Nat.mul (Nat.add (Nat.mul (Nat.mul a (nat_lit 3)) b) (Nat.mul M (Nat.mul a (Nat.mul b (nat_lit 2))))) (Nat.mul b (nat_lit 2))))) W
theorem rA4 {W M a' b' c' d' : Nat} {a b c d : Int} (hM : M + 1 = W) (ra : Rn W a' a) (rb : Rn W b' b) (rc : Rn W c' c) (rd : Rn W d' d) : Rn W (nA4 W M a' b' c' d') (iA4 a b c d) := Rn.mod (Rn.sub hM (Rn.mul (Rn.mul ra Rn_3) (Rn.sub hM (Rn.mul (Rn.mul ra Rn_3) rc) (Rn.mul ra rc))) (Rn.mul (Rn.sub hM (Rn.mul (Rn.mul ra Rn_3) rb) (Rn.mul ra (Rn.mul rb Rn_2))) (Rn.mul rb Rn_2)))
noncomputable def iB4 (a b c d : Int) : Int := (((a * 3) * ((a * 3) * d)) - ((((a * 3) * b) - (a * (b * 2))) * c))
noncomputable def nB4 (W M a b c d : Nat) : Nat := Nat.mod (Nat.add (Nat.mul (Nat.mul a (nat_lit 3)) (Nat.mul (Nat.mul a (nat_lit 3)) d)) (Nat.mul M (Nat.mul (Nat.add (Nat.mul (Nat.mul a (nat_lit 3)) b) (Nat.mul M (Nat.mul a (Nat.mul b (nat_lit 2))))) c))) W
theorem rB4 {W M a' b' c' d' : Nat} {a b c d : Int} (hM : M + 1 = W) (ra : Rn W a' a) (rb : Rn W b' b) (rc : Rn W c' c) (rd : Rn W d' d) : Rn W (nB4 W M a' b' c' d') (iB4 a b c d) := Rn.mod (Rn.sub hM (Rn.mul (Rn.mul ra Rn_3) (Rn.mul (Rn.mul ra Rn_3) rd)) (Rn.mul (Rn.sub hM (Rn.mul (Rn.mul ra Rn_3) rb) (Rn.mul ra (Rn.mul rb Rn_2))) rc))
noncomputable def iC4 (A B a b c : Int) : Int := ((A * (A * c)) - (((A * (b * 2)) - ((a * 3) * B)) * B))
noncomputable def nC4 (W M A B a b c : Nat) : Nat := Nat.mod (Nat.add (Nat.mul A (Nat.mul A c)) (Nat.mul M (Nat.mul (Nat.add (Nat.mul A (Nat.mul b (nat_lit 2))) (Nat.mul M (Nat.mul (Nat.mul a (nat_lit 3)) B))) B))) W
theorem rC4 {W M A' B' a' b' c' : Nat} {A B a b c : Int} (hM : M + 1 = W) (rA : Rn W A' A) (rB : Rn W B' B) (ra : Rn W a' a) (rb : Rn W b' b) (rc : Rn W c' c) : Rn W (nC4 W M A' B' a' b' c') (iC4 A B a b c) := Rn.mod (Rn.sub hM (Rn.mul rA (Rn.mul rA rc)) (Rn.mul (Rn.sub hM (Rn.mul rA (Rn.mul rb Rn_2)) (Rn.mul (Rn.mul ra Rn_3) rB)) rB))
noncomputable def iA3 (a b c : Int) : Int := (((a * 2) * ((a * 2) * c)) - ((((a * 2) * b) - (a * b)) * b))
noncomputable def nA3 (W M a b c : Nat) : Nat := Nat.mod (Nat.add (Nat.mul (Nat.mul a (nat_lit 2)) (Nat.mul (Nat.mul a (nat_lit 2)) c)) (Nat.mul M (Nat.mul (Nat.add (Nat.mul (Nat.mul a (nat_lit 2)) b) (Nat.mul M (Nat.mul a b))) b))) W
theorem rA3 {W M a' b' c' : Nat} {a b c : Int} (hM : M + 1 = W) (ra : Rn W a' a) (rb : Rn W b' b) (rc : Rn W c' c) : Rn W (nA3 W M a' b' c') (iA3 a b c) := Rn.mod (Rn.sub hM (Rn.mul (Rn.mul ra Rn_2) (Rn.mul (Rn.mul ra Rn_2) rc)) (Rn.mul (Rn.sub hM (Rn.mul (Rn.mul ra Rn_2) rb) (Rn.mul ra rb)) rb))
theorem p51 (a b c d e : Int) : pr (a * 4) [b * 3,c * 2,d] [a,b,c,d,e] = [iA5 a b c d e,iB5 a b c d e,iC5 a b c d e] := rfl
theorem p52 (A B C a b c d : Int) : pr A [B,C] [a * 4,b * 3,c * 2,d] = [iD5 A B C a b c d,iE5 A B C a b c d] := rfl
theorem p53 (D E A B C : Int) : pr D [E] [A,B,C] = [iF5 D E A B C] := rfl
theorem p41 (a b c d : Int) : pr (a * 3) [b * 2,c] [a,b,c,d] = [iA4 a b c d,iB4 a b c d] := rfl
theorem p42 (A B a b c : Int) : pr A [B] [a * 3,b * 2,c] = [iC4 A B a b c] := rfl
theorem p31 (a b c : Int) : pr (a * 2) [b] [a,b,c] = [iA3 a b c] := rfl
noncomputable def nz (W M n : Nat) : Nat := Nat.div (Nat.add n M) W
theorem nz_spec {W M n : Nat} (hM : M + 1 = W) (h : nz W M n = 1) : n ≠ 0 := by
  intro z; subst z
  have : (0 + M) / W = 0 := Nat.div_eq_of_lt (by lia)
  have h' : (0 + M) / W = 1 := h
  lia
theorem Rn.ne {W n : Nat} {x : Int} (hW : 0 < W) (h : Rn W n x) (hn : n < W) (h0 : n ≠ 0) : x ≠ 0 := by
  intro z
  have := h.val hW
  rw [z,Int.zero_emod,Nat.mod_eq_of_lt hn] at this
  lia
theorem Rn.eq0 {W M H n k : Nat} {x : Int} (q : Mods W M H) (h : Rn W n x) (hx : Sm k x) (hk : k ≤ 500) (h0 : Nat.mod n W = 0) : x = 0 := by
  have hp := q.pos
  have hl := q.lt hx hk
  have hh := q.h
  have v := h.val (by lia)
  have e : n % W = 0 := h0
  rw [e] at v
  have := Int.emod_add_mul_ediv x (W : Int)
  have : (W : Int) ∣ x := Int.dvd_of_emod_eq_zero v.symm
  exact Int.eq_zero_of_dvd_of_natAbs_lt_natAbs this (by simp; lia)
theorem gd_mem {k n : Nat} {l : List Int} {x : Int} (h : Gd k n l) (hx : x ∈ l) : Sm n x := h.sm x hx
theorem mods_mod_lt {W M H : Nat} (q : Mods W M H) (n : Nat) : Nat.mod n W < W := Nat.mod_lt _ (by have := q.pos; have := q.h; lia)
noncomputable def fin (V0 V1 u : Nat) : Bool := Nat.beq V0 (Nat.add V1 u)
noncomputable def vz5 (W M H T a b c d e A B C D E F : Nat) : Nat := (ch T (sg W M H e) (sg W M H d) (sg W M H (Nat.mul M C)) (sg W M H (Nat.mul M E)) (sg W M H F))
noncomputable def vo5 (W M H T a b c d e A B C D E F : Nat) : Nat := (ch T (sg W M H (Nat.add (Nat.add (Nat.add (Nat.add a b) c) d) e)) (sg W M H (Nat.add (Nat.add (Nat.add (Nat.mul a (nat_lit 4)) (Nat.mul b (nat_lit 3))) (Nat.mul c (nat_lit 2))) d)) (sg W M H (Nat.mul M (Nat.add (Nat.add A B) C))) (sg W M H (Nat.mul M (Nat.add D E))) (sg W M H F))
noncomputable def sN5 (W M H T a b c d e u : Nat) (alt : Bool) : Bool := ((fun (A : Nat) (B : Nat) (C : Nat) => ((fun (D : Nat) (E : Nat) => ((fun (F : Nat) => (Bool.rec alt (fin (vz5 W M H T a b c d e A B C D E F) (vo5 W M H T a b c d e A B C D E F) u) (Nat.beq (Nat.mul (Nat.mul (nz W M A) (nz W M D)) (nz W M F)) (nat_lit 1)))) (nF5 W M D E A B C))) (nD5 W M A B C a b c d) (nE5 W M A B C a b c d))) (nA5 W M a b c d e) (nB5 W M a b c d e) (nC5 W M a b c d e))
noncomputable def vz4 (W M H T a b c d A B C : Nat) : Nat := (ch T (sg W M H d) (sg W M H c) (sg W M H (Nat.mul M B)) (sg W M H (Nat.mul M C)) (nat_lit 0))
noncomputable def vo4 (W M H T a b c d A B C : Nat) : Nat := (ch T (sg W M H (Nat.add (Nat.add (Nat.add a b) c) d)) (sg W M H (Nat.add (Nat.add (Nat.mul a (nat_lit 3)) (Nat.mul b (nat_lit 2))) c)) (sg W M H (Nat.mul M (Nat.add A B))) (sg W M H (Nat.mul M C)) (nat_lit 0))
noncomputable def sN4 (W M H T a b c d u : Nat) (alt : Bool) : Bool := ((fun (A : Nat) (B : Nat) => ((fun (C : Nat) => (Bool.rec alt (fin (vz4 W M H T a b c d A B C) (vo4 W M H T a b c d A B C) u) (Nat.beq (Nat.mul (nz W M A) (nz W M C)) (nat_lit 1)))) (nC4 W M A B a b c))) (nA4 W M a b c d) (nB4 W M a b c d))
noncomputable def vz3 (W M H T a b c A : Nat) : Nat := (ch T (sg W M H c) (sg W M H b) (sg W M H (Nat.mul M A)) (nat_lit 0) (nat_lit 0))
noncomputable def vo3 (W M H T a b c A : Nat) : Nat := (ch T (sg W M H (Nat.add (Nat.add a b) c)) (sg W M H (Nat.add (Nat.mul a (nat_lit 2)) b)) (sg W M H (Nat.mul M A)) (nat_lit 0) (nat_lit 0))
noncomputable def sN3 (W M H T a b c u : Nat) (alt : Bool) : Bool := ((fun (A : Nat) => (Bool.rec alt (fin (vz3 W M H T a b c A) (vo3 W M H T a b c A) u) (Nat.beq (nz W M A) (nat_lit 1)))) (nA3 W M a b c))
theorem mul_one_of {x y : Nat} (h : Nat.mul x y = 1) : x = 1 ∧ y = 1 := ⟨Nat.eq_one_of_mul_eq_one_right h,Nat.eq_one_of_mul_eq_one_left h⟩
theorem sm_add {n m : Nat} {x y : Int} (h : Sm n x) (h' : Sm m y) : Sm (max n m + 1) (x + y) := (h.mono (Nat.le_max_left _ _)).add (h'.mono (Nat.le_max_right _ _))
theorem sN5_spec {W M H a' b' c' d' e' u : Nat} {a b c d e : Int} {alt : Bool} (q : Mods W M H) (ra : Rn W a' a) (rb : Rn W b' b) (rc : Rn W c' c) (rd : Rn W d' d) (re : Rn W e' e) (hf : Gd 100 20 [a,b,c,d,e]) (ha : a > 0) (h : sN5 W M H tab a' b' c' d' e' u alt = true) : SturmN [a,b,c,d,e] u ∨ alt = true := by
  have hM := q.m
  have hW : 0 < W := by lia
  have rA := rA5 hM ra rb rc rd re
  have rB := rB5 hM ra rb rc rd re
  have rC := rC5 hM ra rb rc rd re
  have rD := rD5 hM rA rB rC ra rb rc rd
  have rE := rE5 hM rA rB rC ra rb rc rd
  have rF := rF5 hM rD rE rA rB rC
  have g1 := der_gd hf (by simp)
  rw [der5] at g1
  have g2 := pr_gd hf g1
  rw [p51] at g2
  have g3 := pr_gd g1 g2
  rw [p52] at g3
  have g4 := pr_gd g2 g3
  rw [p53] at g4
  have lA : nA5 W M a' b' c' d' e' < W := mods_mod_lt q _
  have lD : nD5 W M (nA5 W M a' b' c' d' e') (nB5 W M a' b' c' d' e') (nC5 W M a' b' c' d' e') a' b' c' d' < W := mods_mod_lt q _
  have lF : nF5 W M (nD5 W M (nA5 W M a' b' c' d' e') (nB5 W M a' b' c' d' e') (nC5 W M a' b' c' d' e') a' b' c' d') (nE5 W M (nA5 W M a' b' c' d' e') (nB5 W M a' b' c' d' e') (nC5 W M a' b' c' d' e') a' b' c' d') (nA5 W M a' b' c' d' e') (nB5 W M a' b' c' d' e') (nC5 W M a' b' c' d' e') < W := mods_mod_lt q _
  unfold sN5 at h
  dsimp only at h
  generalize nA5 W M a' b' c' d' e' = A' at *
  generalize nB5 W M a' b' c' d' e' = B' at *
  generalize nC5 W M a' b' c' d' e' = C' at *
  generalize nD5 W M A' B' C' a' b' c' d' = D' at *
  generalize nE5 W M A' B' C' a' b' c' d' = E' at *
  generalize nF5 W M D' E' A' B' C' = F' at *
  have h1 := p51 a b c d e
  have h2 := p52 (iA5 a b c d e) (iB5 a b c d e) (iC5 a b c d e) a b c d
  have h3 := p53 (iD5 (iA5 a b c d e) (iB5 a b c d e) (iC5 a b c d e) a b c d) (iE5 (iA5 a b c d e) (iB5 a b c d e) (iC5 a b c d e) a b c d) (iA5 a b c d e) (iB5 a b c d e) (iC5 a b c d e)
  generalize iF5 (iD5 (iA5 a b c d e) (iB5 a b c d e) (iC5 a b c d e) a b c d) (iE5 (iA5 a b c d e) (iB5 a b c d e) (iC5 a b c d e) a b c d) (iA5 a b c d e) (iB5 a b c d e) (iC5 a b c d e) = F at *
  generalize iD5 (iA5 a b c d e) (iB5 a b c d e) (iC5 a b c d e) a b c d = D at *
  generalize iE5 (iA5 a b c d e) (iB5 a b c d e) (iC5 a b c d e) a b c d = E at *
  generalize iA5 a b c d e = A at *
  generalize iB5 a b c d e = B at *
  generalize iC5 a b c d e = C at *
  cases hn : Nat.beq (Nat.mul (Nat.mul (nz W M A') (nz W M D')) (nz W M F')) (nat_lit 1) with
  | false =>
    rw [hn] at h
    exact .inr h
  | true =>
    rw [hn] at h
    have h' := Nat.eq_of_beq_eq_true h
    obtain ⟨n0,n2'⟩ := mul_one_of (Nat.eq_of_beq_eq_true hn)
    have n1 := mul_one_of n0
    have n2 : True ∧ nz W M F' = 1 := ⟨trivial,n2'⟩
    have hA := rA.ne hW lA (nz_spec hM n1.1)
    have hD := rD.ne hW lD (nz_spec hM n1.2)
    have hF := rF.ne hW lF (nz_spec hM n2.2)
    have hs := st5 (hf.mono (Nat.le_refl _) (by decide)) (by lia) h1 hA h2 hD h3 hF
    obtain ⟨x,hx⟩ := (gcd5 (hf.mono (Nat.le_refl _) (by decide)) ha h1 hA h2 hD h3).1 hF
    refine .inl ⟨simp_normal (der5 a b c d e) (by lia) hx,?_⟩
    rw [hs]
    unfold vz5 vo5 at h'
    rw [sg_spec q re (gd_mem hf (by simp)) (by decide),sg_spec q rd (gd_mem hf (by simp)) (by decide),sg_spec q (Rn.neg hM rC) (Sm.neg (gd_mem g2 (by simp))) (by decide),sg_spec q (Rn.neg hM rE) (Sm.neg (gd_mem g3 (by simp))) (by decide),sg_spec q rF (gd_mem g4 (by simp)) (by decide)] at h'
    rw [sg_spec q (Rn.add (Rn.add (Rn.add (Rn.add ra rb) rc) rd) re) (sm_add (sm_add (sm_add (sm_add (gd_mem hf (by simp)) (gd_mem hf (by simp))) (gd_mem hf (by simp))) (gd_mem hf (by simp))) (gd_mem hf (by simp))) (by decide),sg_spec q (Rn.add (Rn.add (Rn.add (Rn.mul ra Rn_4) (Rn.mul rb Rn_3)) (Rn.mul rc Rn_2)) rd) (sm_add (sm_add (sm_add (Sm.mul (gd_mem hf (by simp)) (show Sm 3 4 by unfold Sm; decide)) (Sm.mul (gd_mem hf (by simp)) (show Sm 3 3 by unfold Sm; decide))) (Sm.mul (gd_mem hf (by simp)) (show Sm 3 2 by unfold Sm; decide))) (gd_mem hf (by simp))) (by decide),sg_spec q (Rn.neg hM (Rn.add (Rn.add rA rB) rC)) (Sm.neg (sm_add (sm_add (gd_mem g2 (by simp)) (gd_mem g2 (by simp))) (gd_mem g2 (by simp)))) (by decide),sg_spec q (Rn.neg hM (Rn.add rD rE)) (Sm.neg (sm_add (gd_mem g3 (by simp)) (gd_mem g3 (by simp)))) (by decide)] at h'
    rw [ch_spec,ch_spec,Nat.add_eq] at h'
    congr 1
    lia
theorem sN4_spec {W M H a' b' c' d' u : Nat} {a b c d : Int} {alt : Bool} (q : Mods W M H) (ra : Rn W a' a) (rb : Rn W b' b) (rc : Rn W c' c) (rd : Rn W d' d) (hf : Gd 100 20 [a,b,c,d]) (ha : a > 0) (h : sN4 W M H tab a' b' c' d' u alt = true) : SturmN [a,b,c,d] u ∨ alt = true := by
  have hM := q.m
  have hW : 0 < W := by lia
  have rA := rA4 hM ra rb rc rd
  have rB := rB4 hM ra rb rc rd
  have rC := rC4 hM rA rB ra rb rc
  have g1 := der_gd hf (by simp)
  rw [der4] at g1
  have g2 := pr_gd hf g1
  rw [p41] at g2
  have g3 := pr_gd g1 g2
  rw [p42] at g3
  have lA : nA4 W M a' b' c' d' < W := mods_mod_lt q _
  have lC : nC4 W M (nA4 W M a' b' c' d') (nB4 W M a' b' c' d') a' b' c' < W := mods_mod_lt q _
  unfold sN4 at h
  dsimp only at h
  generalize nA4 W M a' b' c' d' = A' at *
  generalize nB4 W M a' b' c' d' = B' at *
  generalize nC4 W M A' B' a' b' c' = C' at *
  have h1 := p41 a b c d
  have h2 := p42 (iA4 a b c d) (iB4 a b c d) a b c
  generalize iC4 (iA4 a b c d) (iB4 a b c d) a b c = C at *
  generalize iA4 a b c d = A at *
  generalize iB4 a b c d = B at *
  cases hn : Nat.beq (Nat.mul (nz W M A') (nz W M C')) (nat_lit 1) with
  | false =>
    rw [hn] at h
    exact .inr h
  | true =>
    rw [hn] at h
    have h' := Nat.eq_of_beq_eq_true h
    have n1 := mul_one_of (Nat.eq_of_beq_eq_true hn)
    have hA := rA.ne hW lA (nz_spec hM n1.1)
    have hC := rC.ne hW lC (nz_spec hM n1.2)
    have hs := st4 (hf.mono (Nat.le_refl _) (by decide)) (by lia) h1 hA h2 hC
    obtain ⟨x,hx⟩ := (gcd4 (hf.mono (Nat.le_refl _) (by decide)) ha h1 hA h2).1 hC
    refine .inl ⟨simp_normal (der4 a b c d) (by lia) hx,?_⟩
    rw [hs]
    unfold vz4 vo4 at h'
    rw [sg_spec q rd (gd_mem hf (by simp)) (by decide),sg_spec q rc (gd_mem hf (by simp)) (by decide),sg_spec q (Rn.neg hM rB) (Sm.neg (gd_mem g2 (by simp))) (by decide),sg_spec q (Rn.neg hM rC) (Sm.neg (gd_mem g3 (by simp))) (by decide)] at h'
    rw [sg_spec q (Rn.add (Rn.add (Rn.add ra rb) rc) rd) (sm_add (sm_add (sm_add (gd_mem hf (by simp)) (gd_mem hf (by simp))) (gd_mem hf (by simp))) (gd_mem hf (by simp))) (by decide),sg_spec q (Rn.add (Rn.add (Rn.mul ra Rn_3) (Rn.mul rb Rn_2)) rc) (sm_add (sm_add (Sm.mul (gd_mem hf (by simp)) (show Sm 3 3 by unfold Sm; decide)) (Sm.mul (gd_mem hf (by simp)) (show Sm 3 2 by unfold Sm; decide))) (gd_mem hf (by simp))) (by decide),sg_spec q (Rn.neg hM (Rn.add rA rB)) (Sm.neg (sm_add (gd_mem g2 (by simp)) (gd_mem g2 (by simp)))) (by decide)] at h'
    rw [ch_spec4,ch_spec4,Nat.add_eq] at h'
    congr 1
    lia
theorem sN3_spec {W M H a' b' c' u : Nat} {a b c : Int} {alt : Bool} (q : Mods W M H) (ra : Rn W a' a) (rb : Rn W b' b) (rc : Rn W c' c) (hf : Gd 100 20 [a,b,c]) (ha : a > 0) (h : sN3 W M H tab a' b' c' u alt = true) : SturmN [a,b,c] u ∨ alt = true := by
  have hM := q.m
  have hW : 0 < W := by lia
  have rA := rA3 hM ra rb rc
  have g1 := der_gd hf (by simp)
  rw [der3] at g1
  have g2 := pr_gd hf g1
  rw [p31] at g2
  have lA : nA3 W M a' b' c' < W := mods_mod_lt q _
  unfold sN3 at h
  dsimp only at h
  generalize nA3 W M a' b' c' = A' at *
  have h1 := p31 a b c
  generalize iA3 a b c = A at *
  cases hn : Nat.beq (nz W M A') (nat_lit 1) with
  | false =>
    rw [hn] at h
    exact .inr h
  | true =>
    rw [hn] at h
    have h' := Nat.eq_of_beq_eq_true h
    have n1 := Nat.eq_of_beq_eq_true hn
    have hA := rA.ne hW lA (nz_spec hM n1)
    have hs := st3 (hf.mono (Nat.le_refl _) (by decide)) (by lia) h1 hA
    obtain ⟨x,hx⟩ := gcd3 (hf.mono (Nat.le_refl _) (by decide)) ha h1 hA
    refine .inl ⟨simp_normal (der3 a b c) (by lia) hx,?_⟩
    rw [hs]
    unfold vz3 vo3 at h'
    rw [sg_spec q rc (gd_mem hf (by simp)) (by decide),sg_spec q rb (gd_mem hf (by simp)) (by decide),sg_spec q (Rn.neg hM rA) (Sm.neg (gd_mem g2 (by simp))) (by decide)] at h'
    rw [sg_spec q (Rn.add (Rn.add ra rb) rc) (sm_add (sm_add (gd_mem hf (by simp)) (gd_mem hf (by simp))) (gd_mem hf (by simp))) (by decide),sg_spec q (Rn.add (Rn.mul ra Rn_2) rb) (sm_add (Sm.mul (gd_mem hf (by simp)) (show Sm 3 2 by unfold Sm; decide)) (gd_mem hf (by simp))) (by decide)] at h'
    rw [ch_spec3,ch_spec3,Nat.add_eq] at h'
    congr 1
    lia
theorem s2_ok {a b : Int} (hf : Gd 100 20 [a,b]) (ha : a > 0) {u : Nat} (h : chS [sgnI b,sgnI a] = chS [sgnI (a + b),sgnI a] + u) : SturmOk [a,b] u := by
  have hs := st2 (hf.mono (Nat.le_refl _) (by decide)) (by lia)
  have hx : subH 4 (primH [a,b]) (primH [a]) 1 1 = some [a.fdiv (gcdL 0 [a] : Nat)] := by
    rw [show primH [a] = [a.fdiv (gcdL 0 [a] : Nat)] by unfold primH; dsimp only; rw [if_pos ha]; rfl]
    exact sub_one
  refine ⟨_,simp_normal (der2 a b) (by lia) hx,?_⟩
  rw [hs]; congr 1; lia
end Mine
end
section
open PySem PySem.W PyProof.Rows
set_option exponentiation.threshold 10000
set_option maxRecDepth 100000
namespace Mine
noncomputable def defR (c0 c1 c2 m0 m1 m2 m3 : Nat) : Nat :=
  Nat.add (Nat.add (Nat.add (Nat.mod (Nat.add c0 m0) (nat_lit 2)) (Nat.mod (Nat.add c1 m1) (nat_lit 2))) (Nat.add (Nat.mod (Nat.add c2 m2) (nat_lit 2)) (Nat.mod (Nat.add (Nat.add c0 c1) (Nat.add c2 m3)) (nat_lit 2))))
    (Nat.add (Nat.add (Nat.sub m0 c0) (Nat.sub m1 c1)) (Nat.add (Nat.sub m2 c2) (Nat.sub (Nat.add (Nat.add c1 c2) m3) c0)))
theorem par_of {c m : Nat} (h : (c + m) % 2 = 0) (h2 : m - c = 0) : m ≤ c ∧ (c - m) % 2 = 0 := by lia
theorem par_of3 {a b c d : Nat} (h : (a + b + (c + d)) % 2 = 0) (h2 : b + c + d - a = 0) : b + c + d ≤ a ∧ (a - (b + c + d)) % 2 = 0 := by lia
theorem defR_spec {c0 c1 c2 m0 m1 m2 m3 : Nat} (h : defR c0 c1 c2 m0 m1 m2 m3 = 0) : RowsOk c0 c1 c2 m0 m1 m2 m3 := by
  have h' : ((c0 + m0) % 2 + (c1 + m1) % 2 + ((c2 + m2) % 2 + (c0 + c1 + (c2 + m3)) % 2)) + ((m0 - c0) + (m1 - c1) + ((m2 - c2) + ((c1 + c2 + m3) - c0))) = 0 := h
  simp only [Nat.add_eq_zero_iff] at h'
  obtain ⟨⟨⟨p0,p1⟩,p2,p3⟩,⟨l0,l1⟩,l2,l3⟩ := h'
  have a0 := par_of p0 l0
  have a1 := par_of p1 l1
  have a2 := par_of p2 l2
  have a3 := par_of3 p3 l3
  exact ⟨a0.1,a1.1,a2.1,a0.2,a1.2,a2.2,a3.1,a3.2⟩
noncomputable def cR2 (W M H T a b : Nat) : Nat := ch T (sg W M H a) (sg W M H (Nat.add a b)) (nat_lit 0) (nat_lit 0) (nat_lit 0)
theorem cR2_spec {W M H a' b' : Nat} {a b : Int} (q : Mods W M H) (ra : Rn W a' a) (ha : Bd a) (rb : Rn W b' b) (hb : Bd b) : cR2 W M H tab a' b' = ck [a,b] := by
  unfold Bd at *
  unfold cR2
  rw [sg_spec q ra (sm40 (by lia)) (by decide)]
  rw [sg_spec q (Rn.add ra rb) (sm40 (by lia)) (by decide)]
  exact ch_spec2 (a) ((a + b))
noncomputable def rd2 (W M H T a b m0 m1 m2 m3 : Nat) : Nat := (fun (l0 l1 : Nat) => defR (cR2 W M H T a b) (cR2 W M H T l0 l1) (cR2 W M H T (Nat.add l0 l1) l1) m0 m1 m2 m3) (Nat.mul (nat_lit 2) a) b
theorem rd2_spec {W M H a' b' m0 m1 m2 m3 : Nat} {a b : Int} (q : Mods W M H) (ra : Rn W a' a) (ha : -20000 ≤ a ∧ a ≤ 20000) (rb : Rn W b' b) (hb : -20000 ≤ b ∧ b ≤ 20000) (h : rd2 W M H tab a' b' m0 m1 m2 m3 = 0) : RowsOk (ck [a,b]) (ck (leftL [a,b])) (ck (shL (leftL [a,b]))) m0 m1 m2 m3 := by
  have h' := defR_spec h
  rw [cR2_spec q ra (by unfold Bd; lia) rb (by unfold Bd; lia)] at h'
  have rl0 := (Rn.mul Rn_2 ra)
  have rl1 := rb
  rw [cR2_spec q rl0 (by unfold Bd; lia) rl1 (by unfold Bd; lia)] at h'
  rw [cR2_spec q (Rn.add rl0 rl1) (by unfold Bd; lia) rl1 (by unfold Bd; lia)] at h'
  exact h'
noncomputable def cR3 (W M H T a b c : Nat) : Nat := ch T (sg W M H a) (sg W M H (Nat.add (Nat.mul (nat_lit 2) a) b)) (sg W M H (Nat.add (Nat.add a b) c)) (nat_lit 0) (nat_lit 0)
theorem cR3_spec {W M H a' b' c' : Nat} {a b c : Int} (q : Mods W M H) (ra : Rn W a' a) (ha : Bd a) (rb : Rn W b' b) (hb : Bd b) (rc : Rn W c' c) (hc : Bd c) : cR3 W M H tab a' b' c' = ck [a,b,c] := by
  unfold Bd at *
  unfold cR3
  rw [sg_spec q ra (sm40 (by lia)) (by decide)]
  rw [sg_spec q (Rn.add (Rn.mul Rn_2 ra) rb) (sm40 (by lia)) (by decide)]
  rw [sg_spec q (Rn.add (Rn.add ra rb) rc) (sm40 (by lia)) (by decide)]
  exact ch_spec3 (a) (((2 * a) + b)) (((a + b) + c))
noncomputable def rd3 (W M H T a b c m0 m1 m2 m3 : Nat) : Nat := (fun (l0 l1 l2 : Nat) => defR (cR3 W M H T a b c) (cR3 W M H T l0 l1 l2) (cR3 W M H T (Nat.add (Nat.add l0 l1) l2) (Nat.add l1 (Nat.mul (nat_lit 2) l2)) l2) m0 m1 m2 m3) (Nat.mul (nat_lit 4) a) (Nat.mul (nat_lit 2) b) c
theorem rd3_spec {W M H a' b' c' m0 m1 m2 m3 : Nat} {a b c : Int} (q : Mods W M H) (ra : Rn W a' a) (ha : -20000 ≤ a ∧ a ≤ 20000) (rb : Rn W b' b) (hb : -20000 ≤ b ∧ b ≤ 20000) (rc : Rn W c' c) (hc : -20000 ≤ c ∧ c ≤ 20000) (h : rd3 W M H tab a' b' c' m0 m1 m2 m3 = 0) : RowsOk (ck [a,b,c]) (ck (leftL [a,b,c])) (ck (shL (leftL [a,b,c]))) m0 m1 m2 m3 := by
  have h' := defR_spec h
  rw [cR3_spec q ra (by unfold Bd; lia) rb (by unfold Bd; lia) rc (by unfold Bd; lia)] at h'
  have rl0 := (Rn.mul Rn_4 ra)
  have rl1 := (Rn.mul Rn_2 rb)
  have rl2 := rc
  rw [cR3_spec q rl0 (by unfold Bd; lia) rl1 (by unfold Bd; lia) rl2 (by unfold Bd; lia)] at h'
  rw [cR3_spec q (Rn.add (Rn.add rl0 rl1) rl2) (by unfold Bd; lia) (Rn.add rl1 (Rn.mul Rn_2 rl2)) (by unfold Bd; lia) rl2 (by unfold Bd; lia)] at h'
  exact h'
noncomputable def cR4 (W M H T a b c d : Nat) : Nat := ch T (sg W M H a) (sg W M H (Nat.add (Nat.mul (nat_lit 3) a) b)) (sg W M H (Nat.add (Nat.add (Nat.mul (nat_lit 3) a) (Nat.mul (nat_lit 2) b)) c)) (sg W M H (Nat.add (Nat.add (Nat.add a b) c) d)) (nat_lit 0)
theorem cR4_spec {W M H a' b' c' d' : Nat} {a b c d : Int} (q : Mods W M H) (ra : Rn W a' a) (ha : Bd a) (rb : Rn W b' b) (hb : Bd b) (rc : Rn W c' c) (hc : Bd c) (rd : Rn W d' d) (hd : Bd d) : cR4 W M H tab a' b' c' d' = ck [a,b,c,d] := by
  unfold Bd at *
  unfold cR4
  rw [sg_spec q ra (sm40 (by lia)) (by decide)]
  rw [sg_spec q (Rn.add (Rn.mul Rn_3 ra) rb) (sm40 (by lia)) (by decide)]
  rw [sg_spec q (Rn.add (Rn.add (Rn.mul Rn_3 ra) (Rn.mul Rn_2 rb)) rc) (sm40 (by lia)) (by decide)]
  rw [sg_spec q (Rn.add (Rn.add (Rn.add ra rb) rc) rd) (sm40 (by lia)) (by decide)]
  exact ch_spec4 (a) (((3 * a) + b)) ((((3 * a) + (2 * b)) + c)) ((((a + b) + c) + d))
noncomputable def rd4 (W M H T a b c d m0 m1 m2 m3 : Nat) : Nat := (fun (l0 l1 l2 l3 : Nat) => defR (cR4 W M H T a b c d) (cR4 W M H T l0 l1 l2 l3) (cR4 W M H T (Nat.add (Nat.add (Nat.add l0 l1) l2) l3) (Nat.add (Nat.add l1 (Nat.mul (nat_lit 2) l2)) (Nat.mul (nat_lit 3) l3)) (Nat.add l2 (Nat.mul (nat_lit 3) l3)) l3) m0 m1 m2 m3) (Nat.mul (nat_lit 8) a) (Nat.mul (nat_lit 4) b) (Nat.mul (nat_lit 2) c) d
theorem rd4_spec {W M H a' b' c' d' m0 m1 m2 m3 : Nat} {a b c d : Int} (q : Mods W M H) (ra : Rn W a' a) (ha : -20000 ≤ a ∧ a ≤ 20000) (rb : Rn W b' b) (hb : -20000 ≤ b ∧ b ≤ 20000) (rc : Rn W c' c) (hc : -20000 ≤ c ∧ c ≤ 20000) (rd : Rn W d' d) (hd : -20000 ≤ d ∧ d ≤ 20000) (h : rd4 W M H tab a' b' c' d' m0 m1 m2 m3 = 0) : RowsOk (ck [a,b,c,d]) (ck (leftL [a,b,c,d])) (ck (shL (leftL [a,b,c,d]))) m0 m1 m2 m3 := by
  have h' := defR_spec h
  rw [cR4_spec q ra (by unfold Bd; lia) rb (by unfold Bd; lia) rc (by unfold Bd; lia) rd (by unfold Bd; lia)] at h'
  have rl0 := (Rn.mul Rn_8 ra)
  have rl1 := (Rn.mul Rn_4 rb)
  have rl2 := (Rn.mul Rn_2 rc)
  have rl3 := rd
  rw [cR4_spec q rl0 (by unfold Bd; lia) rl1 (by unfold Bd; lia) rl2 (by unfold Bd; lia) rl3 (by unfold Bd; lia)] at h'
  rw [cR4_spec q (Rn.add (Rn.add (Rn.add rl0 rl1) rl2) rl3) (by unfold Bd; lia) (Rn.add (Rn.add rl1 (Rn.mul Rn_2 rl2)) (Rn.mul Rn_3 rl3)) (by unfold Bd; lia) (Rn.add rl2 (Rn.mul Rn_3 rl3)) (by unfold Bd; lia) rl3 (by unfold Bd; lia)] at h'
  exact h'
noncomputable def cR5 (W M H T a b c d e : Nat) : Nat := ch T (sg W M H a) (sg W M H (Nat.add (Nat.mul (nat_lit 4) a) b)) (sg W M H (Nat.add (Nat.add (Nat.mul (nat_lit 6) a) (Nat.mul (nat_lit 3) b)) c)) (sg W M H (Nat.add (Nat.add (Nat.add (Nat.mul (nat_lit 4) a) (Nat.mul (nat_lit 3) b)) (Nat.mul (nat_lit 2) c)) d)) (sg W M H (Nat.add (Nat.add (Nat.add (Nat.add a b) c) d) e))
theorem cR5_spec {W M H a' b' c' d' e' : Nat} {a b c d e : Int} (q : Mods W M H) (ra : Rn W a' a) (ha : Bd a) (rb : Rn W b' b) (hb : Bd b) (rc : Rn W c' c) (hc : Bd c) (rd : Rn W d' d) (hd : Bd d) (re : Rn W e' e) (he : Bd e) : cR5 W M H tab a' b' c' d' e' = ck [a,b,c,d,e] := by
  unfold Bd at *
  unfold cR5
  rw [sg_spec q ra (sm40 (by lia)) (by decide)]
  rw [sg_spec q (Rn.add (Rn.mul Rn_4 ra) rb) (sm40 (by lia)) (by decide)]
  rw [sg_spec q (Rn.add (Rn.add (Rn.mul Rn_6 ra) (Rn.mul Rn_3 rb)) rc) (sm40 (by lia)) (by decide)]
  rw [sg_spec q (Rn.add (Rn.add (Rn.add (Rn.mul Rn_4 ra) (Rn.mul Rn_3 rb)) (Rn.mul Rn_2 rc)) rd) (sm40 (by lia)) (by decide)]
  rw [sg_spec q (Rn.add (Rn.add (Rn.add (Rn.add ra rb) rc) rd) re) (sm40 (by lia)) (by decide)]
  exact ch_spec (a) (((4 * a) + b)) ((((6 * a) + (3 * b)) + c)) (((((4 * a) + (3 * b)) + (2 * c)) + d)) (((((a + b) + c) + d) + e))
noncomputable def rd5 (W M H T a b c d e m0 m1 m2 m3 : Nat) : Nat := (fun (l0 l1 l2 l3 l4 : Nat) => defR (cR5 W M H T a b c d e) (cR5 W M H T l0 l1 l2 l3 l4) (cR5 W M H T (Nat.add (Nat.add (Nat.add (Nat.add l0 l1) l2) l3) l4) (Nat.add (Nat.add (Nat.add l1 (Nat.mul (nat_lit 2) l2)) (Nat.mul (nat_lit 3) l3)) (Nat.mul (nat_lit 4) l4)) (Nat.add (Nat.add l2 (Nat.mul (nat_lit 3) l3)) (Nat.mul (nat_lit 6) l4)) (Nat.add l3 (Nat.mul (nat_lit 4) l4)) l4) m0 m1 m2 m3) (Nat.mul (nat_lit 16) a) (Nat.mul (nat_lit 8) b) (Nat.mul (nat_lit 4) c) (Nat.mul (nat_lit 2) d) e
theorem rd5_spec {W M H a' b' c' d' e' m0 m1 m2 m3 : Nat} {a b c d e : Int} (q : Mods W M H) (ra : Rn W a' a) (ha : -20000 ≤ a ∧ a ≤ 20000) (rb : Rn W b' b) (hb : -20000 ≤ b ∧ b ≤ 20000) (rc : Rn W c' c) (hc : -20000 ≤ c ∧ c ≤ 20000) (rd : Rn W d' d) (hd : -20000 ≤ d ∧ d ≤ 20000) (re : Rn W e' e) (he : -20000 ≤ e ∧ e ≤ 20000) (h : rd5 W M H tab a' b' c' d' e' m0 m1 m2 m3 = 0) : RowsOk (ck [a,b,c,d,e]) (ck (leftL [a,b,c,d,e])) (ck (shL (leftL [a,b,c,d,e]))) m0 m1 m2 m3 := by
  have h' := defR_spec h
  rw [cR5_spec q ra (by unfold Bd; lia) rb (by unfold Bd; lia) rc (by unfold Bd; lia) rd (by unfold Bd; lia) re (by unfold Bd; lia)] at h'
  have rl0 := (Rn.mul Rn_16 ra)
  have rl1 := (Rn.mul Rn_8 rb)
  have rl2 := (Rn.mul Rn_4 rc)
  have rl3 := (Rn.mul Rn_2 rd)
  have rl4 := re
  rw [cR5_spec q rl0 (by unfold Bd; lia) rl1 (by unfold Bd; lia) rl2 (by unfold Bd; lia) rl3 (by unfold Bd; lia) rl4 (by unfold Bd; lia)] at h'
  rw [cR5_spec q (Rn.add (Rn.add (Rn.add (Rn.add rl0 rl1) rl2) rl3) rl4) (by unfold Bd; lia) (Rn.add (Rn.add (Rn.add rl1 (Rn.mul Rn_2 rl2)) (Rn.mul Rn_3 rl3)) (Rn.mul Rn_4 rl4)) (by unfold Bd; lia) (Rn.add (Rn.add rl2 (Rn.mul Rn_3 rl3)) (Rn.mul Rn_6 rl4)) (by unfold Bd; lia) (Rn.add rl3 (Rn.mul Rn_4 rl4)) (by unfold Bd; lia) rl4 (by unfold Bd; lia)] at h'
  exact h'
noncomputable def ab (W H n : Nat) : Nat := Nat.add (Nat.mul (Nat.sub (nat_lit 1) (Nat.div (Nat.mod n W) H)) (Nat.mod n W)) (Nat.mul (Nat.div (Nat.mod n W) H) (Nat.sub W (Nat.mod n W)))
theorem ab_spec {W M H n k : Nat} {x : Int} (q : Mods W M H) (h : Rn W n x) (hx : Sm k x) (hk : k ≤ 500) : ab W H n = x.natAbs := by
  have hp := q.pos
  have hl := q.lt hx hk
  have hh := q.h
  have e := emod_of q h hl
  show (1 - (n % W) / H) * (n % W) + ((n % W) / H) * (W - n % W) = _
  rw [e]
  by_cases h0 : 0 ≤ x
  · rw [if_pos h0]
    have h2 : x.natAbs / H = 0 := Nat.div_eq_of_lt hl
    rw [h2]; lia
  · rw [if_neg h0]
    have h2 : (W - x.natAbs) / H = 1 := Nat.div_eq_of_lt_le (by lia) (by lia)
    rw [h2]; lia
theorem dvd_gcdL {g : Nat} : ∀ (l : List Int) (g0 : Nat),g ∣ g0 → (∀ x ∈ l,(g : Int) ∣ x) → g ∣ gcdL g0 l
  | [],_,h,_ => h
  | a :: r,g0,h,hl => dvd_gcdL r _ (Nat.dvd_gcd h (Int.ofNat_dvd_left.mp (hl a (.head _)))) fun x q => hl x (.tail _ q)
theorem num_eq {f g : List Int} (h : ∀ x ∈ g,((gcdL 0 f : Nat) : Int) ∣ x) : numH f g = gcdL 0 f := by
  unfold numH
  exact Nat.gcd_eq_left (dvd_gcdL g 0 (Nat.dvd_zero _) h)
theorem num5 (a b c d e : Int) : numH [a,b,c,d,e] [a * 4,b * 3,c * 2,d] = gcdL 0 [a,b,c,d,e] := by
  have h := (gcdL_dvd [a,b,c,d,e] 0).2
  refine num_eq fun x hx => ?_
  simp only [List.mem_cons,List.not_mem_nil,or_false] at hx
  rcases hx with rfl | rfl | rfl | rfl
  · exact Int.dvd_mul_of_dvd_left (h a (by simp))
  · exact Int.dvd_mul_of_dvd_left (h b (by simp))
  · exact Int.dvd_mul_of_dvd_left (h c (by simp))
  · exact h _ (by simp)
theorem num4 (a b c d : Int) : numH [a,b,c,d] [a * 3,b * 2,c] = gcdL 0 [a,b,c,d] := by
  have h := (gcdL_dvd [a,b,c,d] 0).2
  refine num_eq fun x hx => ?_
  simp only [List.mem_cons,List.not_mem_nil,or_false] at hx
  rcases hx with rfl | rfl | rfl
  · exact Int.dvd_mul_of_dvd_left (h a (by simp))
  · exact Int.dvd_mul_of_dvd_left (h b (by simp))
  · exact h _ (by simp)
noncomputable def dN5 (W M H T a b c d e v w g3 g2 g1 g0 K u : Nat) : Bool :=
  (fun (A B C : Nat) => (fun (D E : Nat) => (fun (F : Nat) => Bool.rec false (Bool.rec false (sN4 W M H T g3 g2 g1 g0 u false) (Nat.beq (Nat.gcd (Nat.gcd (Nat.gcd (Nat.gcd (ab W H a) (ab W H b)) (ab W H c)) (ab W H d)) (ab W H e)) K))
     (Nat.beq (Nat.add (Nat.add F (Nat.mod (Nat.add (Nat.mul D w) (Nat.mul M (Nat.mul E v))) W)) (Nat.sub (nat_lit 1) (Nat.mul (nz W M A) (nz W M D)))) (nat_lit 0)))
    (nF5 W M D E A B C)) (nD5 W M A B C a b c d) (nE5 W M A B C a b c d)) (nA5 W M a b c d e) (nB5 W M a b c d e) (nC5 W M a b c d e)
noncomputable def dN4 (W M H T a b c d v w g2 g1 g0 K u : Nat) : Bool :=
  (fun (A B : Nat) => (fun (C : Nat) => Bool.rec false (Bool.rec false (sN3 W M H T g2 g1 g0 u false) (Nat.beq (Nat.gcd (Nat.gcd (Nat.gcd (ab W H a) (ab W H b)) (ab W H c)) (ab W H d)) K))
     (Nat.beq (Nat.add (Nat.add C (Nat.mod (Nat.add (Nat.mul A w) (Nat.mul M (Nat.mul B v))) W)) (Nat.sub (nat_lit 1) (nz W M A))) (nat_lit 0)))
    (nC4 W M A B a b c)) (nA4 W M a b c d) (nB4 W M a b c d)
theorem rec_and {x y : Bool} (h : Bool.rec (motive := fun _ => Bool) false x y = true) : y = true ∧ x = true := by
  cases y with
  | false => cases h
  | true => exact ⟨rfl,h⟩
theorem nz_or {W M n : Nat} (hW : 0 < W) (hM : M + 1 = W) (hn : n < W) : nz W M n = 0 ∨ nz W M n = 1 := by
  show (n + M) / W = 0 ∨ (n + M) / W = 1
  by_cases h : n = 0
  · exact .inl (Nat.div_eq_of_lt (by lia))
  · exact .inr (Nat.div_eq_of_lt_le (by lia) (by lia))
theorem gcd5_eq (a b c d e : Int) : gcdL 0 [a,b,c,d,e] = Nat.gcd (Nat.gcd (Nat.gcd (Nat.gcd a.natAbs b.natAbs) c.natAbs) d.natAbs) e.natAbs := by
  simp only [gcdL,Nat.gcd_zero_left]
theorem gcd4_eq (a b c d : Int) : gcdL 0 [a,b,c,d] = Nat.gcd (Nat.gcd (Nat.gcd a.natAbs b.natAbs) c.natAbs) d.natAbs := by
  simp only [gcdL,Nat.gcd_zero_left]
theorem sn_false {p : Prop} (h : p ∨ (false : Bool) = true) : p := h.elim id fun q => Bool.noConfusion q
theorem dN5_spec {W M H a' b' c' d' e' v w' g3' g2' g1' g0' K u : Nat} {a b c d e w g3 g2 g1 g0 : Int} (q : Mods W M H) (ra : Rn W a' a) (rb : Rn W b' b) (rc : Rn W c' c) (rd : Rn W d' d) (re : Rn W e' e) (rw' : Rn W w' w) (r3 : Rn W g3' g3) (r2 : Rn W g2' g2) (r1 : Rn W g1' g1) (r0 : Rn W g0' g0)
    (hf : Gd 100 20 [a,b,c,d,e]) (hg : Gd 100 20 [g3,g2,g1,g0]) (sv : Sm 20 (v : Int)) (sw : Sm 20 w) (sK : Sm 20 (K : Int)) (ha : a > 0) (hg3 : g3 > 0) (hv : v > 0) (hK : K > 0) (hc : Nat.gcd v w.natAbs = 1)
    (hfe : [a,b,c,d,e] = cz ((v : Int) * K) (w * K) 0 [g3,g2,g1,g0]) (h : dN5 W M H tab a' b' c' d' e' v w' g3' g2' g1' g0' K u = true) : SturmOk [a,b,c,d,e] u := by
  have hM := q.m
  have hW : 0 < W := by lia
  unfold dN5 at h
  dsimp only at h
  obtain ⟨t1,h⟩ := rec_and h
  obtain ⟨t2,h⟩ := rec_and h
  have t1 := Nat.eq_of_beq_eq_true t1
  have t2 := Nat.eq_of_beq_eq_true t2
  have sN := sn_false (sN4_spec q r3 r2 r1 r0 hg hg3 h)
  rw [ab_spec q ra (gd_mem hf (by simp)) (by decide),ab_spec q rb (gd_mem hf (by simp)) (by decide),ab_spec q rc (gd_mem hf (by simp)) (by decide),ab_spec q rd (gd_mem hf (by simp)) (by decide),ab_spec q re (gd_mem hf (by simp)) (by decide),← gcd5_eq,← num5] at t2
  have rA := rA5 hM ra rb rc rd re
  have rB := rB5 hM ra rb rc rd re
  have rC := rC5 hM ra rb rc rd re
  have rD := rD5 hM rA rB rC ra rb rc rd
  have rE := rE5 hM rA rB rC ra rb rc rd
  have rF := rF5 hM rD rE rA rB rC
  have gg1 := der_gd hf (by simp)
  rw [der5] at gg1
  have gg2 := pr_gd hf gg1
  rw [p51] at gg2
  have gg3 := pr_gd gg1 gg2
  rw [p52] at gg3
  have gg4 := pr_gd gg2 gg3
  rw [p53] at gg4
  have lA : nA5 W M a' b' c' d' e' < W := mods_mod_lt q _
  have lD : nD5 W M (nA5 W M a' b' c' d' e') (nB5 W M a' b' c' d' e') (nC5 W M a' b' c' d' e') a' b' c' d' < W := mods_mod_lt q _
  have lF : nF5 W M (nD5 W M (nA5 W M a' b' c' d' e') (nB5 W M a' b' c' d' e') (nC5 W M a' b' c' d' e') a' b' c' d') (nE5 W M (nA5 W M a' b' c' d' e') (nB5 W M a' b' c' d' e') (nC5 W M a' b' c' d' e') a' b' c' d') (nA5 W M a' b' c' d' e') (nB5 W M a' b' c' d' e') (nC5 W M a' b' c' d' e') < W := mods_mod_lt q _
  generalize nA5 W M a' b' c' d' e' = A' at *
  generalize nB5 W M a' b' c' d' e' = B' at *
  generalize nC5 W M a' b' c' d' e' = C' at *
  generalize nD5 W M A' B' C' a' b' c' d' = D' at *
  generalize nE5 W M A' B' C' a' b' c' d' = E' at *
  generalize nF5 W M D' E' A' B' C' = F' at *
  have h1 := p51 a b c d e
  have h2 := p52 (iA5 a b c d e) (iB5 a b c d e) (iC5 a b c d e) a b c d
  have h3 := p53 (iD5 (iA5 a b c d e) (iB5 a b c d e) (iC5 a b c d e) a b c d) (iE5 (iA5 a b c d e) (iB5 a b c d e) (iC5 a b c d e) a b c d) (iA5 a b c d e) (iB5 a b c d e) (iC5 a b c d e)
  generalize iF5 (iD5 (iA5 a b c d e) (iB5 a b c d e) (iC5 a b c d e) a b c d) (iE5 (iA5 a b c d e) (iB5 a b c d e) (iC5 a b c d e) a b c d) (iA5 a b c d e) (iB5 a b c d e) (iC5 a b c d e) = F at *
  generalize iD5 (iA5 a b c d e) (iB5 a b c d e) (iC5 a b c d e) a b c d = D at *
  generalize iE5 (iA5 a b c d e) (iB5 a b c d e) (iC5 a b c d e) a b c d = E at *
  generalize iA5 a b c d e = A at *
  generalize iB5 a b c d e = B at *
  generalize iC5 a b c d e = C at *
  have t1' : F' + Nat.mod (Nat.add (Nat.mul D' w') (Nat.mul M (Nat.mul E' v))) W + (1 - nz W M A' * nz W M D') = 0 := t1
  have nn : nz W M A' * nz W M D' = 1 := by
    rcases nz_or hW hM lA with x | x <;> rcases nz_or hW hM lD with y | y <;> rw [x,y] at t1' ⊢ <;> lia
  have n1 := mul_one_of nn
  have hA := rA.ne hW lA (nz_spec hM n1.1)
  have hD := rD.ne hW lD (nz_spec hM n1.2)
  have hF : F = 0 := by
    have e0 : F' = 0 := by lia
    rw [e0] at rF
    exact rF.eq0 q (gd_mem gg4 (by simp)) (by decide) (Nat.zero_mod _)
  have hx : D * w - E * (v : Int) = 0 := by
    refine ((rD.mul rw').sub hM (rE.mul (Rn.ofNat v))).eq0 q (k := 260) ?_ (by decide) (by lia)
    have s1 := (gd_mem gg3 (x := D) (by simp)).mul sw
    have s2 := (gd_mem gg3 (x := E) (by simp)).mul sv
    rw [Int.sub_eq_add_neg]
    exact (s1.add s2.neg).mono (by decide)
  obtain ⟨κ,l1,l0,hκ,hsub,k1,k0,gl⟩ := (gcd5 (hf.mono (Nat.le_refl _) (by decide)) ha h1 hA h2 hD h3).2 hF
  have hl1 : l1 ≠ 0 := by intro z; rw [z,Int.mul_zero] at k1; exact hD k1.symm
  have hl : l1 * w = l0 * (v : Int) := by
    have : κ * (l1 * w) = κ * (l0 * v) := by rw [← Int.mul_assoc,← Int.mul_assoc,k1,k0]; lia
    exact Int.eq_of_mul_eq_mul_left hκ this
  have hs := simp_double hfe (der5 a b c d e) (by lia) hsub (by lia) hl hl1 hc (by rw [t2]) (by lia) (by lia) (sv.mono (by decide)) (sw.mono (by decide)) (sK.mono (by decide)) (fun x hx => (hg.sm x hx).mono (by decide)) (by simp)
  exact ⟨_,hs,sN.2⟩
theorem dN4_spec {W M H a' b' c' d' v w' g2' g1' g0' K u : Nat} {a b c d w g2 g1 g0 : Int} (q : Mods W M H) (ra : Rn W a' a) (rb : Rn W b' b) (rc : Rn W c' c) (rd : Rn W d' d) (rw' : Rn W w' w) (r2 : Rn W g2' g2) (r1 : Rn W g1' g1) (r0 : Rn W g0' g0)
    (hf : Gd 100 20 [a,b,c,d]) (hg : Gd 100 20 [g2,g1,g0]) (sv : Sm 20 (v : Int)) (sw : Sm 20 w) (sK : Sm 20 (K : Int)) (ha : a > 0) (hg3 : g2 > 0) (hv : v > 0) (hK : K > 0) (hc : Nat.gcd v w.natAbs = 1)
    (hfe : [a,b,c,d] = cz ((v : Int) * K) (w * K) 0 [g2,g1,g0]) (h : dN4 W M H tab a' b' c' d' v w' g2' g1' g0' K u = true) : SturmOk [a,b,c,d] u := by
  have hM := q.m
  have hW : 0 < W := by lia
  unfold dN4 at h
  dsimp only at h
  obtain ⟨t1,h⟩ := rec_and h
  obtain ⟨t2,h⟩ := rec_and h
  have t1 := Nat.eq_of_beq_eq_true t1
  have t2 := Nat.eq_of_beq_eq_true t2
  have sN := sn_false (sN3_spec q r2 r1 r0 hg hg3 h)
  rw [ab_spec q ra (gd_mem hf (by simp)) (by decide),ab_spec q rb (gd_mem hf (by simp)) (by decide),ab_spec q rc (gd_mem hf (by simp)) (by decide),ab_spec q rd (gd_mem hf (by simp)) (by decide),← gcd4_eq,← num4] at t2
  have rA := rA4 hM ra rb rc rd
  have rB := rB4 hM ra rb rc rd
  have rC := rC4 hM rA rB ra rb rc
  have gg1 := der_gd hf (by simp)
  rw [der4] at gg1
  have gg2 := pr_gd hf gg1
  rw [p41] at gg2
  have gg3 := pr_gd gg1 gg2
  rw [p42] at gg3
  have lA : nA4 W M a' b' c' d' < W := mods_mod_lt q _
  generalize nA4 W M a' b' c' d' = A' at *
  generalize nB4 W M a' b' c' d' = B' at *
  generalize nC4 W M A' B' a' b' c' = C' at *
  have h1 := p41 a b c d
  have h2 := p42 (iA4 a b c d) (iB4 a b c d) a b c
  generalize iC4 (iA4 a b c d) (iB4 a b c d) a b c = C at *
  generalize iA4 a b c d = A at *
  generalize iB4 a b c d = B at *
  have t1' : C' + Nat.mod (Nat.add (Nat.mul A' w') (Nat.mul M (Nat.mul B' v))) W + (1 - nz W M A') = 0 := t1
  have nn : nz W M A' = 1 := by
    rcases nz_or hW hM lA with x | x <;> rw [x] at t1' ⊢; lia
  have hA := rA.ne hW lA (nz_spec hM nn)
  have hC : C = 0 := by
    have e0 : C' = 0 := by lia
    rw [e0] at rC
    exact rC.eq0 q (gd_mem gg3 (by simp)) (by decide) (Nat.zero_mod _)
  have hx : A * w - B * (v : Int) = 0 := by
    refine ((rA.mul rw').sub hM (rB.mul (Rn.ofNat v))).eq0 q (k := 260) ?_ (by decide) (by lia)
    have s1 := (gd_mem gg2 (x := A) (by simp)).mul sw
    have s2 := (gd_mem gg2 (x := B) (by simp)).mul sv
    rw [Int.sub_eq_add_neg]
    exact (s1.add s2.neg).mono (by decide)
  obtain ⟨κ,l1,l0,hκ,hsub,k1,k0,gl⟩ := (gcd4 (hf.mono (Nat.le_refl _) (by decide)) ha h1 hA h2).2 hC
  have hl1 : l1 ≠ 0 := by intro z; rw [z,Int.mul_zero] at k1; exact hA k1.symm
  have hl : l1 * w = l0 * (v : Int) := by
    have : κ * (l1 * w) = κ * (l0 * v) := by rw [← Int.mul_assoc,← Int.mul_assoc,k1,k0]; lia
    exact Int.eq_of_mul_eq_mul_left hκ this
  have hs := simp_double hfe (der4 a b c d) (by lia) hsub (by lia) hl hl1 hc (by rw [t2]) (by lia) (by lia) (sv.mono (by decide)) (sw.mono (by decide)) (sK.mono (by decide)) (fun x hx => (hg.sm x hx).mono (by decide)) (by simp)
  exact ⟨_,hs,sN.2⟩
noncomputable def genI (f : List Int) (u : Nat) : Bool := match simpH f with
  | none => false
  | some g => match stH g with
    | none => false
    | some n => decide (n = (u : Int))
theorem genI_spec {f : List Int} {u : Nat} (h : genI f u = true) : SturmOk f u := by
  unfold genI at h
  split at h
  · cases h
  rename_i g hg
  split at h
  · cases h
  rename_i n hn
  rw [of_decide_eq_true h] at hn
  exact ⟨g,hg,hn⟩
theorem mul_1_2 (x y : Int) : mulL [1] [x,y] = [x,y] := by simp [mulL,mulGo,addAt,List.replicate]
theorem mul_1_3 (u v w : Int) : mulL [1] [u,v,w] = [u,v,w] := by simp [mulL,mulGo,addAt,List.replicate]
theorem mul_2_2 (a b x y : Int) : mulL [a,b] [x,y] = [a * x,a * y + b * x,b * y] := by simp [mulL,mulGo,addAt,List.replicate]
theorem mul_3_2 (a b c x y : Int) : mulL [a,b,c] [x,y] = [a * x,a * y + b * x,b * y + c * x,c * y] := by simp [mulL,mulGo,addAt,List.replicate]
theorem mul_4_2 (a b c d x y : Int) : mulL [a,b,c,d] [x,y] = [a * x,a * y + b * x,b * y + c * x,c * y + d * x,d * y] := by simp [mulL,mulGo,addAt,List.replicate]
theorem mul_2_3 (a b x y z : Int) : mulL [a,b] [x,y,z] = [a * x,a * y + b * x,a * z + b * y,b * z] := by simp [mulL,mulGo,addAt,List.replicate]
theorem mul_3_3 (a b c x y z : Int) : mulL [a,b,c] [x,y,z] = [a * x,a * y + b * x,a * z + b * y + c * x,b * z + c * y,c * z] := by simp [mulL,mulGo,addAt,List.replicate]
end Mine
end
section
open PySem PySem.W PyProof.Rows
set_option exponentiation.threshold 10000
set_option maxRecDepth 100000
namespace Mine
inductive Pt where
  | ln (p q : Nat)
  | qd (c b q : Nat)
noncomputable def Pt.toL : Pt → List Int
  | .ln p q => [1 - (p : Int),(q : Int)]
  | .qd c b q => [2 + (c : Int),(b : Int) - 2,(q : Int)]
noncomputable def Pt.deg : Pt → Int
  | .ln _ _ => 1
  | .qd _ _ _ => 2
noncomputable def Pt.Ok : Pt → Prop
  | .ln p q => p < 7 ∧ 0 < q ∧ q < 5
  | .qd c b q => c < 4 ∧ b < 5 ∧ 0 < q ∧ q < 5
theorem draw_ok (L : List Int) (n : Nat) (k : Int) (hk : k > 0) (hL : L.length ≤ 1000) : ∃ r : Nat,(r : Int) < k ∧ drawD [.list (L.map .int),.int n] k = some ((r : Int),[.list (L.map .int),.int ((n + 1 : Nat) : Int)]) := by
  have i1 : idxL [PV.list (L.map .int),.int (n : Int)] 1 = some (.int n) := rfl
  have s1 : setIdx [PV.list (L.map .int),.int (n : Int)] 1 (.int ((n : Int) + 1)) = some [PV.list (L.map .int),.int ((n : Int) + 1)] := rfl
  have e1 : ((n : Int) + 1) = ((n + 1 : Nat) : Int) := by lia
  have i0 : idxL [PV.list (L.map .int),.int ((n + 1 : Nat) : Int)] 0 = some (.list (L.map .int)) := rfl
  have i0' : idxV (.list [PV.list (L.map .int),.int ((n + 1 : Nat) : Int)]) (.int 0) = some (.list (L.map .int)) := rfl
  have md : ∀ x : Int,modV (.int x) (.int k) = some (.int (x.fmod k)) := fun x => by
    unfold modV; dsimp only; rw [if_neg (by lia)]
  have rng : ∀ x : Int,∃ r : Nat,(r : Int) < k ∧ x.fmod k = (r : Int) := fun x => by
    have e : x.fmod k = x % k := Int.fmod_eq_emod_of_nonneg _ (by lia)
    have h1 := Int.emod_nonneg x (show k ≠ 0 by lia)
    have h2 := Int.emod_lt_of_pos x hk
    exact ⟨(x % k).toNat,by lia,by rw [e]; lia⟩
  unfold drawD
  rw [i1]
  dsimp only
  rw [s1]
  dsimp only
  rw [e1]
  by_cases h : n < L.length
  · have d : decide ((n : Int) < (L.length : Int)) = true := decide_eq_true (by lia)
    have lv : lenV (.list (L.map .int)) = some (.int L.length) := by simp [lenV]
    have i2 : idxV (.list (L.map .int)) (.int n) = some (.int L[n]) := idxL_map L n h
    obtain ⟨r,hr,hm⟩ := rng (if L[n] < 0 then -L[n] else L[n])
    refine ⟨r,hr,?_⟩
    simp only [b_draw_rest,run,sSeq,sRet,sAsg,sTup,sUnp,sIf,sNop,sOwn,sFrz,sDrop,sM0,sM1,sM2,evs,bin,una,vr,ci,cst,ifx,tcmp,tand,tor,tnot,tval,vtst,lst,tpl,idx_app,call,List.map_cons,List.map_nil,List.length_cons,List.length_nil,List.cons_append,List.nil_append,List.getElem?_cons_zero,List.getElem?_cons_succ,List.set_cons_zero,List.set_cons_succ,List.replicate,List.replicate_zero,List.replicate_succ,Nat.reduceAdd,Nat.reduceSub,if_true,decide_true,decide_false,i0',lv,ltV,d,i2,absV,md,hm]
  · have d : decide ((n : Int) < (L.length : Int)) = false := decide_eq_false (by lia)
    have lv : lenV (.list (L.map .int)) = some (.int L.length) := by simp [lenV]
    have h9 : modV (.int (n : Int)) (.int 9) = some (.int ((n % 9 : Nat) : Int)) := by
      unfold modV; dsimp only; rw [if_neg (by decide),Int.fmod_eq_emod_of_nonneg _ (by decide)]; rfl
    have ht : ∃ v : Int,idxV (.tup [.int 1,.int 0,.int 1,.int 2,.int 0,.int 0,.int 3,.int 2,.int 0]) (.int ((n % 9 : Nat) : Int)) = some (.int v) := by
      have : n % 9 < 9 := Nat.mod_lt _ (by decide)
      generalize n % 9 = j at this
      match j,this with
      | 0,_ => exact ⟨_,rfl⟩
      | 1,_ => exact ⟨_,rfl⟩
      | 2,_ => exact ⟨_,rfl⟩
      | 3,_ => exact ⟨_,rfl⟩
      | 4,_ => exact ⟨_,rfl⟩
      | 5,_ => exact ⟨_,rfl⟩
      | 6,_ => exact ⟨_,rfl⟩
      | 7,_ => exact ⟨_,rfl⟩
      | 8,_ => exact ⟨_,rfl⟩
      | j + 9,h => lia
    obtain ⟨v,hv⟩ := ht
    obtain ⟨r,hr,hm⟩ := rng v
    refine ⟨r,hr,?_⟩
    simp only [b_draw_rest,run,sSeq,sRet,sAsg,sTup,sUnp,sIf,sNop,sOwn,sFrz,sDrop,sM0,sM1,sM2,evs,bin,una,vr,ci,cst,ifx,tcmp,tand,tor,tnot,tval,vtst,lst,tpl,idx_app,call,List.map_cons,List.map_nil,List.length_cons,List.length_nil,List.cons_append,List.nil_append,List.getElem?_cons_zero,List.getElem?_cons_succ,List.set_cons_zero,List.set_cons_succ,List.replicate,List.replicate_zero,List.replicate_succ,Nat.reduceAdd,Nat.reduceSub,if_true,decide_true,decide_false,i0',lv,ltV,d,h9,hv,md,hm]
noncomputable def degs (pts : List Pt) : Int := (pts.map Pt.deg).sum
inductive Turn : List Pt → List Pt → Prop
  | ln {pts : List Pt} {p q : Nat} : (Pt.ln p q).Ok → degs pts < 4 → Turn pts (pts ++ [.ln p q])
  | qd {pts : List Pt} {c b q : Nat} : (Pt.qd c b q).Ok → degs pts < 3 → Turn pts (pts ++ [.qd c b q])
  | no {pts : List Pt} : ¬ degs pts < 3 → Turn pts pts
theorem degs_snoc (pts : List Pt) (x : Pt) : degs (pts ++ [x]) = degs pts + x.deg := by simp [degs]
theorem turn_ok {L : List Int} (hL : L.length ≤ 1000) {p : Addr} (pts : List Pt) (hp : pts.length ≤ 10) (n : Nat) (s3 s4 s5 s6 s7 : Slot) :
    ∃ pts' t3 t4 t5 t6 t7,Turn pts pts' ∧ q_parts_turn [.val (.addr p),.own (pts.map fun x => pvI x.toL),.val (.int (degs pts)),s3,s4,s5,s6,s7] [.list (L.map .int),.int n] =
      some ([.val (.addr p),.own (pts'.map fun x => pvI x.toL),.val (.int (degs pts')),t3,t4,t5,t6,t7],[.list (L.map .int),.int ((n + 1 + 1 + 1 + 1 : Nat) : Int)]) := by
  obtain ⟨a,ha,e1⟩ := draw_ok L n 2 (by decide) hL
  obtain ⟨b,hb,e2⟩ := draw_ok L (n + 1) 4 (by decide) hL
  obtain ⟨c,hc,e3⟩ := draw_ok L (n + 1 + 1) 7 (by decide) hL
  obtain ⟨d,hd,e4⟩ := draw_ok L (n + 1 + 1 + 1) 5 (by decide) hL
  have hl : (pts.map fun x => pvI x.toL).length < lenMax := by rw [List.length_map,lenMax_eq]; lia
  have u1 : q_parts_turn [.val (.addr p),.own (pts.map fun x => pvI x.toL),.val (.int (degs pts)),s3,s4,s5,s6,s7] [.list (L.map .int),.int n] = qLift b_parts_pick [.val (.addr p),.own (pts.map fun x => pvI x.toL),.val (.int (degs pts)),s3,.val (.int a),.val (.int (1 + (b : Int))),.val (.int c),.val (.int ((d : Int) - 2))] [.list (L.map .int),.int ((n + 1 + 1 + 1 + 1 : Nat) : Int)] := by
    simp only [q_parts_turn,qSeq,qUnp,qTpl,qEvs,qDraw,qBin,qPure,ci,e1,e2,e3,e4,Option.map_some,addV,subV,sM0,sM1,sM2,List.map_cons,List.map_nil,List.set_cons_zero,List.set_cons_succ]
  rw [u1]
  by_cases z : a = 0
  · subst z
    have t1 : eqV (.int ((0 : Nat) : Int)) (.int 0) = some true := rfl
    by_cases h4 : degs pts < 4
    · have d4 : decide (degs pts < 4) = true := decide_eq_true h4
      refine ⟨pts ++ [.ln c (1 + b)],s3,.val (.int ((0 : Nat) : Int)),.val (.int (1 + (b : Int))),.val (.int c),.val (.int ((d : Int) - 2)),.ln ⟨by lia,by lia,by lia⟩ h4,?_⟩
      rw [degs_snoc]
      have e5 : ((1 + b : Nat) : Int) = 1 + (b : Int) := by lia
      have hm : ((pts ++ [Pt.ln c (1 + b)]).map fun x => pvI x.toL) = (pts.map fun x => pvI x.toL) ++ [.list [.int (1 - (c : Int)),.int (1 + (b : Int))]] := by
        rw [List.map_append,← e5]; rfl
      rw [hm]
      simp only [qLift,b_parts_pick,run,sSeq,sRet,sAsg,sTup,sUnp,sIf,sNop,sOwn,sFrz,sDrop,sM0,sM1,sM2,evs,bin,una,vr,ci,cst,ifx,tcmp,tand,tor,tnot,tval,vtst,lst,tpl,idx_app,call,List.map_cons,List.map_nil,List.length_cons,List.length_nil,List.cons_append,List.nil_append,List.getElem?_cons_zero,List.getElem?_cons_succ,List.set_cons_zero,List.set_cons_succ,List.replicate,List.replicate_zero,List.replicate_succ,Nat.reduceAdd,Nat.reduceSub,if_true,decide_true,decide_false,t1,ltV,d4,sApp,subV,addV,hl,Pt.deg]
    · have d4 : decide (degs pts < 4) = false := decide_eq_false h4
      have t2 : eqV (.int ((0 : Nat) : Int)) (.int 1) = some false := rfl
      refine ⟨pts,s3,.val (.int ((0 : Nat) : Int)),.val (.int (1 + (b : Int))),.val (.int c),.val (.int ((d : Int) - 2)),.no (by lia),?_⟩
      simp only [qLift,b_parts_pick,run,sSeq,sRet,sAsg,sTup,sUnp,sIf,sNop,sOwn,sFrz,sDrop,sM0,sM1,sM2,evs,bin,una,vr,ci,cst,ifx,tcmp,tand,tor,tnot,tval,vtst,lst,tpl,idx_app,call,List.map_cons,List.map_nil,List.length_cons,List.length_nil,List.cons_append,List.nil_append,List.getElem?_cons_zero,List.getElem?_cons_succ,List.set_cons_zero,List.set_cons_succ,List.replicate,List.replicate_zero,List.replicate_succ,Nat.reduceAdd,Nat.reduceSub,if_true,decide_true,decide_false,t1,t2,ltV,d4]
  · have hz : a = 1 := by lia
    subst hz
    have t1 : eqV (.int ((1 : Nat) : Int)) (.int 0) = some false := rfl
    have t2 : eqV (.int ((1 : Nat) : Int)) (.int 1) = some true := rfl
    by_cases h3 : degs pts < 3
    · have d3 : decide (degs pts < 3) = true := decide_eq_true h3
      have m4 : modV (.int (c : Int)) (.int 4) = some (.int ((c % 4 : Nat) : Int)) := by
        unfold modV; dsimp only; rw [if_neg (by decide),Int.fmod_eq_emod_of_nonneg _ (by decide)]; rfl
      have hc4 : c % 4 < 4 := Nat.mod_lt _ (by decide)
      refine ⟨pts ++ [.qd (c % 4) d (1 + b)],s3,.val (.int ((1 : Nat) : Int)),.val (.int (1 + (b : Int))),.val (.int c),.val (.int ((d : Int) - 2)),.qd ⟨by lia,by lia,by lia,by lia⟩ h3,?_⟩
      rw [degs_snoc]
      have e5 : ((1 + b : Nat) : Int) = 1 + (b : Int) := by lia
      have hm : ((pts ++ [Pt.qd (c % 4) d (1 + b)]).map fun x => pvI x.toL) = (pts.map fun x => pvI x.toL) ++ [.list [.int (2 + ((c % 4 : Nat) : Int)),.int ((d : Int) - 2),.int (1 + (b : Int))]] := by
        rw [List.map_append,← e5]; rfl
      rw [hm]
      simp only [qLift,b_parts_pick,run,sSeq,sRet,sAsg,sTup,sUnp,sIf,sNop,sOwn,sFrz,sDrop,sM0,sM1,sM2,evs,bin,una,vr,ci,cst,ifx,tcmp,tand,tor,tnot,tval,vtst,lst,tpl,idx_app,call,List.map_cons,List.map_nil,List.length_cons,List.length_nil,List.cons_append,List.nil_append,List.getElem?_cons_zero,List.getElem?_cons_succ,List.set_cons_zero,List.set_cons_succ,List.replicate,List.replicate_zero,List.replicate_succ,Nat.reduceAdd,Nat.reduceSub,if_true,decide_true,decide_false,t1,t2,ltV,d3,sApp,m4,subV,addV,hl,Pt.deg]
    · have d3 : decide (degs pts < 3) = false := decide_eq_false h3
      refine ⟨pts,s3,.val (.int ((1 : Nat) : Int)),.val (.int (1 + (b : Int))),.val (.int c),.val (.int ((d : Int) - 2)),.no h3,?_⟩
      simp only [qLift,b_parts_pick,run,sSeq,sRet,sAsg,sTup,sUnp,sIf,sNop,sOwn,sFrz,sDrop,sM0,sM1,sM2,evs,bin,una,vr,ci,cst,ifx,tcmp,tand,tor,tnot,tval,vtst,lst,tpl,idx_app,call,List.map_cons,List.map_nil,List.length_cons,List.length_nil,List.cons_append,List.nil_append,List.getElem?_cons_zero,List.getElem?_cons_succ,List.set_cons_zero,List.set_cons_succ,List.replicate,List.replicate_zero,List.replicate_succ,Nat.reduceAdd,Nat.reduceSub,if_true,decide_true,decide_false,t1,t2,ltV,d3]
theorem Turn.length {a b : List Pt} (h : Turn a b) : b.length ≤ a.length + 1 := by
  cases h <;> simp
noncomputable def Drawn (pts : List Pt) : Prop := ∃ a,Turn [] a ∧ (pts = a ∨ ∃ b,Turn a b ∧ (pts = b ∨ Turn b pts))
theorem parts_ok (l : List Int) (hl : l.length ≤ 63) (p : Addr) : ∃ pts c',Drawn pts ∧ partsD p [.list ((l.take 13).map .int),.int 0] = some (.list (pts.map fun x => pvI x.toL),c') := by
  have hL : (l.take 13).length ≤ 1000 := by rw [List.length_take]; lia
  obtain ⟨k,hk,e0⟩ := draw_ok (l.take 13) 0 3 (by decide) hL
  have e0' : drawD [.list ((l.take 13).map .int),.int 0] 3 = some ((k : Int),[.list ((l.take 13).map .int),.int ((0 + 1 : Nat) : Int)]) := e0
  have ok3 : okR 0 (1 + (k : Int)) = true := by
    unfold okR
    rw [decide_eq_true (show (0 : Int).natAbs ≤ lenMax by rw [lenMax_eq]; decide),decide_eq_true (show (1 + (k : Int)).natAbs ≤ lenMax by rw [lenMax_eq]; lia)]
    rfl
  obtain ⟨a,a3,a4,a5,a6,a7,T1,E1⟩ := turn_ok (p := p) hL [] (by simp) (0 + 1) (.val (.int 0)) .unset .unset .unset .unset
  obtain ⟨b,b3,b4,b5,b6,b7,T2,E2⟩ := turn_ok (p := p) hL a (by have := T1.length; simp at this; lia) (0 + 1 + 1 + 1 + 1 + 1) (.val (.int 1)) a4 a5 a6 a7
  obtain ⟨c,c3,c4,c5,c6,c7,T3,E3⟩ := turn_ok (p := p) hL b (by have := T1.length; have := T2.length; simp at *; lia) (0 + 1 + 1 + 1 + 1 + 1 + 1 + 1 + 1 + 1) (.val (.int 2)) b4 b5 b6 b7
  have own : ∀ (pts : List Pt) (r : List Slot),pts.length ≤ 10 → ownAt (.val (.addr p) :: .own (pts.map fun x => pvI x.toL) :: r) 1 = some (pts.map fun x => pvI x.toL) := fun pts r h => by
    simp only [ownAt,List.getElem?_cons_succ,List.getElem?_cons_zero]
    rw [if_pos (by rw [List.length_map,lenMax_eq]; lia)]
  have al : a.length ≤ 1 := by have := T1.length; simpa using this
  have bl : b.length ≤ 2 := by have := T2.length; lia
  have cl : c.length ≤ 3 := by have := T3.length; lia
  simp only [List.map_nil,show degs [] = 0 from rfl] at E1
  have hq : ∀ σ' c',forQ 3 q_parts_turn (upto 0 (1 + (k : Int) - 0).toNat) [.val (.addr p),.own [],.val (.int 0),.unset,.unset,.unset,.unset,.unset] [.list ((l.take 13).map .int),.int ((0 + 1 : Nat) : Int)] = some (σ',c') → partsD p [.list ((l.take 13).map .int),.int 0] = (ownAt σ' 1).map fun xs => (.list xs,c') := fun σ' c' h => by
    unfold partsD q_parts
    simp only [qSeq,qLift,sTup,evs,lst,ci,sM0,sM1,sM2,List.cons_append,List.nil_append,List.replicate,List.set_cons_zero,List.set_cons_succ,qFor,qBin,qPure,qDraw,Option.map_some,e0',addV,ok3,if_true,h,sNop]
  have hk' : k = 0 ∨ k = 1 ∨ k = 2 := by lia
  rcases hk' with rfl | rfl | rfl
  · have H : forQ 3 q_parts_turn (upto 0 (1 + ((0 : Nat) : Int) - 0).toNat) [.val (.addr p),.own [],.val (.int 0),.unset,.unset,.unset,.unset,.unset] [.list ((l.take 13).map .int),.int ((0 + 1 : Nat) : Int)] = some ([.val (.addr p),.own (a.map fun x => pvI x.toL),.val (.int (degs a)),a3,a4,a5,a6,a7],[.list ((l.take 13).map .int),.int ((0 + 1 + 1 + 1 + 1 + 1 : Nat) : Int)]) := by
      show forQ 3 q_parts_turn [.int 0] _ _ = _
      simp only [forQ,List.set_cons_zero,List.set_cons_succ,E1]
    refine ⟨a,[.list ((l.take 13).map .int),.int ((0 + 1 + 1 + 1 + 1 + 1 : Nat) : Int)],⟨a,T1,.inl rfl⟩,(hq _ _ H).trans ?_⟩
    rw [own _ _ (by lia)]; rfl
  · have H : forQ 3 q_parts_turn (upto 0 (1 + ((1 : Nat) : Int) - 0).toNat) [.val (.addr p),.own [],.val (.int 0),.unset,.unset,.unset,.unset,.unset] [.list ((l.take 13).map .int),.int ((0 + 1 : Nat) : Int)] = some ([.val (.addr p),.own (b.map fun x => pvI x.toL),.val (.int (degs b)),b3,b4,b5,b6,b7],[.list ((l.take 13).map .int),.int ((0 + 1 + 1 + 1 + 1 + 1 + 1 + 1 + 1 + 1 : Nat) : Int)]) := by
      show forQ 3 q_parts_turn [.int 0,.int 1] _ _ = _
      simp only [forQ,List.set_cons_zero,List.set_cons_succ,E1,E2]
    refine ⟨b,[.list ((l.take 13).map .int),.int ((0 + 1 + 1 + 1 + 1 + 1 + 1 + 1 + 1 + 1 : Nat) : Int)],⟨a,T1,.inr ⟨b,T2,.inl rfl⟩⟩,(hq _ _ H).trans ?_⟩
    rw [own _ _ (by lia)]; rfl
  · have H : forQ 3 q_parts_turn (upto 0 (1 + ((2 : Nat) : Int) - 0).toNat) [.val (.addr p),.own [],.val (.int 0),.unset,.unset,.unset,.unset,.unset] [.list ((l.take 13).map .int),.int ((0 + 1 : Nat) : Int)] = some ([.val (.addr p),.own (c.map fun x => pvI x.toL),.val (.int (degs c)),c3,c4,c5,c6,c7],[.list ((l.take 13).map .int),.int ((0 + 1 + 1 + 1 + 1 + 1 + 1 + 1 + 1 + 1 + 1 + 1 + 1 + 1 : Nat) : Int)]) := by
      show forQ 3 q_parts_turn [.int 0,.int 1,.int 2] _ _ = _
      simp only [forQ,List.set_cons_zero,List.set_cons_succ,E1,E2,E3]
    refine ⟨c,[.list ((l.take 13).map .int),.int ((0 + 1 + 1 + 1 + 1 + 1 + 1 + 1 + 1 + 1 + 1 + 1 + 1 + 1 : Nat) : Int)],⟨a,T1,.inr ⟨b,T2,.inr T3⟩⟩,(hq _ _ H).trans ?_⟩
    rw [own _ _ (by lia)]; rfl
theorem drawn_cases {P : List Pt → Prop} (h1 : ∀ p q,(Pt.ln p q).Ok → P [.ln p q]) (h2 : ∀ c b q,(Pt.qd c b q).Ok → P [.qd c b q])
    (h3 : ∀ p q p' q',(Pt.ln p q).Ok → (Pt.ln p' q').Ok → P [.ln p q,.ln p' q']) (h4 : ∀ p q c b q',(Pt.ln p q).Ok → (Pt.qd c b q').Ok → P [.ln p q,.qd c b q'] ∧ P [.qd c b q',.ln p q]) (h5 : ∀ c b q c' b' q',(Pt.qd c b q).Ok → (Pt.qd c' b' q').Ok → P [.qd c b q,.qd c' b' q'])
    (h6 : ∀ p q p' q' p'' q'',(Pt.ln p q).Ok → (Pt.ln p' q').Ok → (Pt.ln p'' q'').Ok → P [.ln p q,.ln p' q',.ln p'' q'']) (h7 : ∀ p q p' q' c b r,(Pt.ln p q).Ok → (Pt.ln p' q').Ok → (Pt.qd c b r).Ok → P [.ln p q,.ln p' q',.qd c b r] ∧ P [.ln p q,.qd c b r,.ln p' q'] ∧ P [.qd c b r,.ln p q,.ln p' q'])
    {pts : List Pt} (h : Drawn pts) : P pts := by
  obtain ⟨a,t1,h⟩ := h
  cases t1 with
  | no h0 => exact absurd (show degs [] < 3 by simp [degs,Pt.deg]) h0
  | @ln p q o1 _ =>
    rcases h with rfl | ⟨b,t2,h⟩
    · exact h1 p q o1
    · cases t2 with
      | no h0 => exact absurd (show degs ([] ++ [Pt.ln p q]) < 3 by simp [degs,Pt.deg]) h0
      | @ln p' q' o2 _ =>
        rcases h with rfl | t3
        · exact h3 p q p' q' o1 o2
        · cases t3 with
          | no h0 => exact absurd (show degs ([] ++ [Pt.ln p q] ++ [Pt.ln p' q']) < 3 by simp [degs,Pt.deg]) h0
          | @ln p'' q'' o3 _ => exact h6 p q p' q' p'' q'' o1 o2 o3
          | @qd c b r o3 _ => exact (h7 p q p' q' c b r o1 o2 o3).1
      | @qd c b r o2 _ =>
        rcases h with rfl | t3
        · exact (h4 p q c b r o1 o2).1
        · cases t3 with
          | no h0 => exact (h4 p q c b r o1 o2).1
          | @ln p'' q'' o3 _ => exact (h7 p q p'' q'' c b r o1 o3 o2).2.1
          | @qd c' b' r' o3 h0 => exact absurd h0 (by show ¬ degs ([] ++ [Pt.ln p q] ++ [Pt.qd c b r]) < 3; simp [degs,Pt.deg])
  | @qd c b r o1 _ =>
    rcases h with rfl | ⟨d,t2,h⟩
    · exact h2 c b r o1
    · cases t2 with
      | no h0 => exact absurd (show degs ([] ++ [Pt.qd c b r]) < 3 by simp [degs,Pt.deg]) h0
      | @ln p' q' o2 _ =>
        rcases h with rfl | t3
        · exact (h4 p' q' c b r o2 o1).2
        · cases t3 with
          | no h0 => exact (h4 p' q' c b r o2 o1).2
          | @ln p'' q'' o3 _ => exact (h7 p' q' p'' q'' c b r o2 o3 o1).2.2
          | @qd c' b' r' o3 h0 => exact absurd h0 (by show ¬ degs ([] ++ [Pt.qd c b r] ++ [Pt.ln p' q']) < 3; simp [degs,Pt.deg])
      | @qd c' b' r' o2 _ =>
        rcases h with rfl | t3
        · exact h5 c b r c' b' r' o1 o2
        · cases t3 with
          | no h0 => exact h5 c b r c' b' r' o1 o2
          | @ln p'' q'' o3 h0 => exact absurd h0 (by show ¬ degs ([] ++ [Pt.qd c b r] ++ [Pt.qd c' b' r']) < 4; simp [degs,Pt.deg])
          | @qd _ _ _ o3 h0 => exact absurd h0 (by show ¬ degs ([] ++ [Pt.qd c b r] ++ [Pt.qd c' b' r']) < 3; simp [degs,Pt.deg])
end Mine
end
section
open PySem PySem.W PyProof.Rows
set_option exponentiation.threshold 10000
set_option maxRecDepth 100000
namespace Mine
noncomputable def lx (W p : Nat) : Nat := Nat.mod (Nat.sub (Nat.add W (nat_lit 1)) p) W
noncomputable def lk (p q : Nat) : Nat := Nat.gcd (Nat.add (Nat.sub (nat_lit 1) p) (Nat.sub p (nat_lit 1))) q
noncomputable def lv (p q : Nat) : Nat := Nat.div q (lk p q)
noncomputable def lw (W p q : Nat) : Nat := Nat.mod (Nat.sub (Nat.add W (Nat.div (Nat.sub (nat_lit 1) p) (lk p q))) (Nat.div (Nat.sub p (nat_lit 1)) (lk p q))) W
noncomputable def iw (p q : Nat) : Int := ((Nat.div (Nat.sub 1 p) (lk p q) : Nat) : Int) - ((Nat.div (Nat.sub p 1) (lk p q) : Nat) : Int)
noncomputable def qb (W b : Nat) : Nat := Nat.mod (Nat.sub (Nat.add W b) (nat_lit 2)) W
noncomputable def qk (c b q : Nat) : Nat := Nat.gcd (Nat.gcd (Nat.add (nat_lit 2) c) (Nat.add (Nat.sub b (nat_lit 2)) (Nat.sub (nat_lit 2) b))) q
noncomputable def qd0 (c b q : Nat) : Nat := Nat.div (Nat.add (nat_lit 2) c) (qk c b q)
noncomputable def qd2 (c b q : Nat) : Nat := Nat.div q (qk c b q)
noncomputable def qd1 (W c b q : Nat) : Nat := Nat.mod (Nat.sub (Nat.add W (Nat.div (Nat.sub b (nat_lit 2)) (qk c b q))) (Nat.div (Nat.sub (nat_lit 2) b) (qk c b q))) W
noncomputable def iq1 (c b q : Nat) : Int := ((Nat.div (Nat.sub b 2) (qk c b q) : Nat) : Int) - ((Nat.div (Nat.sub 2 b) (qk c b q) : Nat) : Int)
theorem Rn_subm {W m n : Nat} (h : n ≤ W + m) : Rn W (Nat.mod (Nat.sub (Nat.add W m) n) W) ((m : Int) - n) := by
  refine Rn.mod ⟨1,?_⟩
  show ((W + m - n : Nat) : Int) = _
  lia
theorem lx_rn {W p : Nat} (h : p ≤ W) : Rn W (lx W p) (1 - (p : Int)) := Rn_subm (m := 1) (by lia)
theorem qb_rn {W b : Nat} (h : 2 ≤ W) : Rn W (qb W b) ((b : Int) - 2) := Rn_subm (m := b) (n := 2) (by lia)
theorem lw_rn {W p q : Nat} (h : p ≤ W) : Rn W (lw W p q) (iw p q) := by
  refine Rn_subm ?_
  have : (p - 1) / lk p q ≤ p - 1 := Nat.div_le_self _ _
  show (p - 1) / lk p q ≤ W + _
  lia
theorem qd1_rn {W c b q : Nat} (h : 2 ≤ W) : Rn W (qd1 W c b q) (iq1 c b q) := by
  refine Rn_subm ?_
  have : (2 - b) / qk c b q ≤ 2 - b := Nat.div_le_self _ _
  show (2 - b) / qk c b q ≤ W + _
  lia
noncomputable def c0N (p q : Nat) : Nat := Nat.mul (Nat.sub (nat_lit 1) (Nat.sub (nat_lit 2) p)) (Nat.sub (nat_lit 1) (Nat.sub p q))
noncomputable def c1N (p q : Nat) : Nat := Nat.mul (Nat.sub (nat_lit 1) (Nat.sub (nat_lit 2) p)) (Nat.sub (nat_lit 1) (Nat.sub (Nat.add p p) (Nat.add q (nat_lit 1))))
noncomputable def c2N (p q : Nat) : Nat := Nat.mul (Nat.sub (nat_lit 1) (Nat.sub (Nat.add q (nat_lit 3)) (Nat.add p p))) (Nat.sub (nat_lit 1) (Nat.sub p q))
noncomputable def c3N (p q : Nat) : Nat := Nat.sub (nat_lit 1) (Nat.add (Nat.sub (Nat.add p p) (Nat.add q (nat_lit 2))) (Nat.sub (Nat.add q (nat_lit 2)) (Nat.add p p)))
noncomputable def kyN (p q : Nat) : Nat := Nat.mul (Nat.sub (nat_lit 1) (Nat.sub p (Nat.add q (nat_lit 1)))) (Nat.div (Nat.mul (Nat.sub p (nat_lit 1)) (nat_lit 60)) q)
noncomputable def lnI (p q : Nat) : Int × Int := (0 - (1 - (p : Int)),(q : Int))
noncomputable def KeyOk (x : Int × Int) (k : Nat) : Prop := (q4 x = true ∧ (x.1 * 60).fdiv x.2 = (k : Int) ∧ 0 < k) ∨ (q4 x = false ∧ k = 0)
noncomputable def keyB (x : Int × Int) (k : Nat) : Bool := (q4 x && ((x.1 * 60).fdiv x.2 == (k : Int) && Nat.ble 1 k)) || (!q4 x && k == 0)
theorem key_of {x : Int × Int} {k : Nat} (h : keyB x k = true) : KeyOk x k := by
  unfold keyB at h
  simp only [Bool.or_eq_true,Bool.and_eq_true,beq_iff_eq,Bool.not_eq_true'] at h
  rcases h with h | h
  · exact .inl ⟨h.1,h.2.1,Nat.le_of_ble_eq_true h.2.2⟩
  · exact .inr h
noncomputable def lineB (p q : Nat) : Bool := ((q : Int) == lk p q * lv p q && (1 - (p : Int) == lk p q * iw p q && (Nat.gcd (lv p q) (iw p q).natAbs == 1 && (Nat.ble 1 (lv p q) && (Nat.ble 1 (lk p q) && (Nat.ble (lv p q) 7 && (Nat.ble (lk p q) 7 && Nat.ble (iw p q).natAbs 7))))))) &&
  (cntL q0 [lnI p q] == c0N p q && (cntL q1 [lnI p q] == c1N p q && (cntL q2 [lnI p q] == c2N p q && (cntL q3 [lnI p q] == c3N p q && keyB (lnI p q) (kyN p q)))))
theorem lineB_all : ((List.range 7).all fun p => (List.range 4).all fun q => lineB p (q + 1)) = true := by decide +kernel
noncomputable def quadB (c b q : Nat) : Bool := ((2 + (c : Int)) == qk c b q * qd0 c b q && ((b : Int) - 2 == qk c b q * iq1 c b q && ((q : Int) == qk c b q * qd2 c b q && (Nat.ble 1 (qk c b q) && (Nat.ble 1 (qd2 c b q) && (Nat.ble (qk c b q) 7 && (Nat.ble (qd0 c b q) 7 && (Nat.ble (qd2 c b q) 7 && Nat.ble (iq1 c b q).natAbs 7))))))))
theorem quadB_all : ((List.range 4).all fun c => (List.range 5).all fun b => (List.range 4).all fun q => quadB c b (q + 1)) = true := by decide +kernel
theorem line_all {p q : Nat} (h : (Pt.ln p q).Ok) : ((q : Int) = lk p q * lv p q ∧ 1 - (p : Int) = lk p q * iw p q ∧ Nat.gcd (lv p q) (iw p q).natAbs = 1 ∧ 0 < lv p q ∧ 0 < lk p q ∧ lv p q < 8 ∧ lk p q < 8 ∧ (iw p q).natAbs < 8) ∧
    (cntL q0 [lnI p q] = c0N p q ∧ cntL q1 [lnI p q] = c1N p q ∧ cntL q2 [lnI p q] = c2N p q ∧ cntL q3 [lnI p q] = c3N p q ∧ KeyOk (lnI p q) (kyN p q)) := by
  obtain ⟨h1,h2,h3⟩ := h
  have a := lineB_all
  simp only [List.all_eq_true,List.mem_range] at a
  have b := a p h1 (q - 1) (by lia)
  rw [show q - 1 + 1 = q by lia] at b
  unfold lineB at b
  simp only [Bool.and_eq_true,beq_iff_eq] at b
  obtain ⟨⟨b1,b2,b3,b4,b5,b6,b7,b8⟩,b9,b10,b11,b12,b13⟩ := b
  exact ⟨⟨b1,b2,b3,Nat.le_of_ble_eq_true b4,Nat.le_of_ble_eq_true b5,Nat.lt_succ_of_le (Nat.le_of_ble_eq_true b6),Nat.lt_succ_of_le (Nat.le_of_ble_eq_true b7),Nat.lt_succ_of_le (Nat.le_of_ble_eq_true b8)⟩,b9,b10,b11,b12,key_of b13⟩
theorem quad_all {c b q : Nat} (h : (Pt.qd c b q).Ok) : ((2 + (c : Int)) = qk c b q * qd0 c b q ∧ (b : Int) - 2 = qk c b q * iq1 c b q ∧ (q : Int) = qk c b q * qd2 c b q ∧ 0 < qk c b q ∧ 0 < qd2 c b q ∧ qk c b q < 8 ∧ qd0 c b q < 8 ∧ qd2 c b q < 8 ∧ (iq1 c b q).natAbs < 8) := by
  obtain ⟨h1,h2,h3,h4⟩ := h
  have a := quadB_all
  simp only [List.all_eq_true,List.mem_range] at a
  have b := a c h1 b h2 (q - 1) (by lia)
  rw [show q - 1 + 1 = q by lia] at b
  unfold quadB at b
  simp only [Bool.and_eq_true,beq_iff_eq] at b
  obtain ⟨b1,b2,b3,b4,b5,b6,b7,b8,b9⟩ := b
  exact ⟨b1,b2,b3,Nat.le_of_ble_eq_true b4,Nat.le_of_ble_eq_true b5,Nat.lt_succ_of_le (Nat.le_of_ble_eq_true b6),Nat.lt_succ_of_le (Nat.le_of_ble_eq_true b7),Nat.lt_succ_of_le (Nat.le_of_ble_eq_true b8),Nat.lt_succ_of_le (Nat.le_of_ble_eq_true b9)⟩
theorem cntL_cons (f : Int × Int → Bool) (x : Int × Int) (l : List (Int × Int)) : cntL f (x :: l) = cntL f [x] + cntL f l := by
  unfold cntL
  rw [List.filter_cons,List.filter_cons]
  split <;> simp; lia
noncomputable def un1 (k : Nat) : Nat := Nat.sub (nat_lit 1) (Nat.sub (nat_lit 1) k)
noncomputable def neN (a b : Nat) : Nat := Nat.sub (nat_lit 1) (Nat.sub (nat_lit 1) (Nat.add (Nat.sub a b) (Nat.sub b a)))
noncomputable def un2 (k l : Nat) : Nat := Nat.add (un1 k) (Nat.mul (un1 l) (neN k l))
noncomputable def un3 (k l m : Nat) : Nat := Nat.add (un2 k l) (Nat.mul (un1 m) (Nat.mul (neN k m) (neN l m)))
theorem un1_0 : un1 0 = 0 := rfl
theorem un1_pos {k : Nat} (h : 0 < k) : un1 k = 1 := by show 1 - (1 - k) = 1; lia
theorem neN_eq (a : Nat) : neN a a = 0 := by show 1 - (1 - (a - a + (a - a))) = 0; rw [Nat.sub_self]
theorem neN_ne {a b : Nat} (h : a ≠ b) : neN a b = 1 := by
  have : 0 < a - b + (b - a) := by
    rcases Nat.lt_or_gt_of_ne h with q | q
    · exact Nat.add_pos_right _ (Nat.sub_pos_of_lt q)
    · exact Nat.add_pos_left (Nat.sub_pos_of_lt q) _
  exact un1_pos this
theorem dist_1 (a : Int) : dist [a] = 1 := by simp [dist,firstMet,step_dedup,List.range_succ]
theorem dist_2 (a b : Int) : dist [a,b] = if a = b then 1 else 2 := by
  by_cases h : a = b <;> simp [dist,firstMet,step_dedup,List.range_succ,h]
theorem dist_3 (a b c : Int) : dist [a,b,c] = (if a = b then 1 else 2) + (if a = c ∨ b = c then 0 else 1) := by
  by_cases h : a = b
  · subst h
    by_cases h' : a = c <;> simp [dist,firstMet,step_dedup,List.range_succ,h']
  · by_cases h1 : a = c
    · subst h1; simp [dist,firstMet,step_dedup,List.range_succ,h]
    · by_cases h2 : b = c
      · subst h2; simp [dist,firstMet,step_dedup,List.range_succ,h]
      · simp [dist,firstMet,step_dedup,List.range_succ,h,h1,h2]
theorem unl_1 {x : Int × Int} {k : Nat} (h : KeyOk x k) : unlL [x] = un1 k := by
  unfold unlL
  rcases h with ⟨h1,h2,h3⟩ | ⟨h1,h2⟩
  · simp only [List.filter_cons,h1,if_true,List.filter_nil,List.map_cons,List.map_nil,dist_1,un1_pos h3]
  · simp only [List.filter_cons,h1,Bool.false_eq_true,if_false,List.filter_nil,List.map_nil,h2]; rfl
theorem unl_2 {x y : Int × Int} {k l : Nat} (h : KeyOk x k) (h' : KeyOk y l) : unlL [x,y] = un2 k l := by
  unfold unlL un2
  rcases h with ⟨h1,h2,h3⟩ | ⟨h1,h2⟩ <;> rcases h' with ⟨u1,u2,u3⟩ | ⟨u1,u2⟩
  · simp only [List.filter_cons,h1,u1,if_true,List.filter_nil,List.map_cons,List.map_nil,dist_2,un1_pos h3,un1_pos u3,h2,u2]
    by_cases e : k = l
    · subst e; rw [neN_eq]; simp
    · rw [neN_ne e,if_neg (by lia)]
  · simp only [List.filter_cons,h1,u1,if_true,Bool.false_eq_true,if_false,List.filter_nil,List.map_cons,List.map_nil,dist_1,un1_pos h3,u2,un1_0]
    simp
  · simp only [List.filter_cons,h1,u1,if_true,Bool.false_eq_true,if_false,List.filter_nil,List.map_cons,List.map_nil,dist_1,un1_pos u3,h2,un1_0]
    rw [neN_ne (by lia)]
  · simp only [List.filter_cons,h1,u1,Bool.false_eq_true,if_false,List.filter_nil,List.map_nil,h2,u2,un1_0]; rfl
theorem un2_comm (k l : Nat) : un2 k l = un2 l k := by
  unfold un2
  by_cases hk : k = 0 <;> by_cases hl : l = 0
  · subst hk hl; rfl
  · subst hk; rw [un1_0,un1_pos (by lia),neN_ne (by lia)]; simp
  · subst hl; rw [un1_0,un1_pos (by lia),neN_ne (show k ≠ 0 from hk),neN_ne (show 0 ≠ k by lia)]
  · rw [un1_pos (k := k) (by lia),un1_pos (k := l) (by lia)]
    by_cases e : k = l
    · subst e; rfl
    · rw [neN_ne e,neN_ne (fun z => e z.symm)]
theorem unl_3 {x y z : Int × Int} {k l m : Nat} (h : KeyOk x k) (h' : KeyOk y l) (h'' : KeyOk z m) : unlL [x,y,z] = un3 k l m := by
  have e2 := unl_2 h h'
  have e3 := unl_2 h h''
  have e4 := unl_2 h' h''
  unfold un3
  rcases h'' with ⟨v1,v2,v3⟩ | ⟨v1,v2⟩
  · rcases h with ⟨h1,h2,h3⟩ | ⟨h1,h2⟩ <;> rcases h' with ⟨u1,u2,u3⟩ | ⟨u1,u2⟩
    · rw [← e2]
      unfold unlL
      simp only [List.filter_cons,h1,u1,v1,if_true,List.filter_nil,List.map_cons,List.map_nil,dist_2,dist_3,un1_pos v3,h2,u2,v2]
      by_cases e : k = m
      · subst e; rw [neN_eq]; simp
      · by_cases e' : l = m
        · subst e'; rw [neN_eq]; simp
        · rw [neN_ne e,neN_ne e',if_neg (show ¬ ((k : Int) = m ∨ (l : Int) = m) by lia)]
    · have : unlL [x,y,z] = unlL [x,z] := by unfold unlL; simp only [List.filter_cons,u1,Bool.false_eq_true,if_false]
      rw [this,e3]
      unfold un2
      rw [u2,un1_0,un1_pos v3,un1_pos h3,neN_ne (show 0 ≠ m by lia)]
      simp
    · have : unlL [x,y,z] = unlL [y,z] := by unfold unlL; simp only [List.filter_cons,h1,Bool.false_eq_true,if_false]
      rw [this,e4]
      unfold un2
      rw [h2,un1_0,un1_pos v3,un1_pos u3,neN_ne (show 0 ≠ m by lia),neN_ne (show 0 ≠ l by lia)]
      simp
    · have : unlL [x,y,z] = unlL [z] := by unfold unlL; simp only [List.filter_cons,h1,u1,Bool.false_eq_true,if_false]
      rw [this,unl_1 (.inl ⟨v1,v2,v3⟩)]
      unfold un2
      rw [h2,u2,un1_0,neN_ne (show 0 ≠ m by lia),neN_eq]
      simp
  · have : unlL [x,y,z] = unlL [x,y] := by unfold unlL; simp only [List.filter_cons,v1,Bool.false_eq_true,if_false,List.filter_nil]
    rw [this,e2,v2,un1_0]
    simp
theorem sm3 {x : Int} (h : -8 < x ∧ x < 8) : Sm 3 x := by unfold Sm; lia
theorem sm12 {x : Int} (h : Sm 12 x) : -20000 ≤ x ∧ x ≤ 20000 := by unfold Sm at h; lia
theorem part_gd {l : List Int} (hl : l.length ≤ 10) (h : ∀ x ∈ l,Sm 3 x) : Gd 10 10 l := ⟨hl,fun x q => (h x q).mono (by decide)⟩
theorem ln_ok {p q : Nat} (h : (Pt.ln p q).Ok) : LnOk (lnI p q) := by
  obtain ⟨h1,h2,h3⟩ := h
  exact ⟨(sm3 (by show -8 < 0 - (1 - (p : Int)) ∧ 0 - (1 - (p : Int)) < 8; lia)).mono (by decide),(sm3 (by show -8 < (q : Int) ∧ (q : Int) < 8; lia)).mono (by decide),by show (q : Int) ≠ 0; lia⟩
theorem toL_gd {x : Pt} (h : x.Ok) : x.toL ≠ [] ∧ Gd 10 10 x.toL := by
  cases x with
  | ln p q =>
    obtain ⟨h1,h2,h3⟩ := h
    refine ⟨by simp [Pt.toL],part_gd (by simp [Pt.toL]) fun y hy => ?_⟩
    simp only [Pt.toL,List.mem_cons,List.not_mem_nil,or_false] at hy
    exact sm3 (by lia)
  | qd c b q =>
    obtain ⟨h1,h2,h3,h4⟩ := h
    refine ⟨by simp [Pt.toL],part_gd (by simp [Pt.toL]) fun y hy => ?_⟩
    simp only [Pt.toL,List.mem_cons,List.not_mem_nil,or_false] at hy
    exact sm3 (by lia)
noncomputable def LawT (pts : List Pt) : Prop := lawOf (.list ((pts.map Pt.toL).map pvI)) = some (.bool true)
end Mine
end
section
open PySem PySem.W PyProof.Rows
set_option exponentiation.threshold 10000
set_option maxRecDepth 100000
set_option maxHeartbeats 2000000
namespace Mine
theorem Rn.inj {W n : Nat} {x y : Int} (h : Rn W n x) (h' : Rn W n y) (hx : x.natAbs < 8) (hy : y.natAbs < 8) (hW : 100 < W) : x = y := by
  obtain ⟨k,h⟩ := h
  obtain ⟨l,h'⟩ := h'
  have e : x - y = W * (l - k) := by grind
  have hd : (W : Int) ∣ x - y := ⟨_,e⟩
  have hs := Int.natAbs_sub_le x y
  have := Int.eq_zero_of_dvd_of_natAbs_lt_natAbs hd (by
    rw [Int.natAbs_natCast]
    exact Nat.lt_of_le_of_lt hs (Nat.lt_trans (Nat.add_lt_add hx hy) (Nat.lt_trans (by decide) hW)))
  exact Int.sub_eq_zero.mp this
theorem mods_big {W M H : Nat} (q : Mods W M H) : 100 < W := by
  have h1 : 2 ^ 7 ≤ 2 ^ 500 := Nat.pow_le_pow_right (by decide) (by decide)
  have h2 := q.b
  have h3 := q.h
  lia
theorem rec_or {x y : Bool} (h : Bool.rec (motive := fun _ => Bool) x true y = true) : y = true ∨ x = true := by
  cases y with
  | false => exact .inr h
  | true => exact .inl rfl
noncomputable def pB (W p q p' q' : Nat) : Bool := Bool.rec false (Nat.beq (lw W p q) (lw W p' q')) (Nat.beq (lv p q) (lv p' q'))
theorem pB_spec {W p q p' q' : Nat} (hW : 100 < W) (o : (Pt.ln p q).Ok) (o' : (Pt.ln p' q').Ok) (h : pB W p q p' q' = true) : lv p q = lv p' q' ∧ iw p q = iw p' q' := by
  obtain ⟨h1,h2⟩ := rec_and h
  have h1 := Nat.eq_of_beq_eq_true h1
  have h2 := Nat.eq_of_beq_eq_true h2
  refine ⟨h1,?_⟩
  have r := lw_rn (W := W) (p := p) (q := q) (by have := o.1; lia)
  have r' := lw_rn (W := W) (p := p') (q := q') (by have := o'.1; lia)
  rw [h2] at r
  exact r.inj r' (line_all o).1.2.2.2.2.2.2.2 (line_all o').1.2.2.2.2.2.2.2 hW
theorem ln_int {p q : Nat} (h : (Pt.ln p q).Ok) : Sm 3 (1 - (p : Int)) ∧ Sm 3 (q : Int) := by
  obtain ⟨h1,h2,h3⟩ := h
  exact ⟨sm3 (by lia),sm3 (by lia)⟩
theorem qd_int {c b q : Nat} (h : (Pt.qd c b q).Ok) : Sm 3 (2 + (c : Int)) ∧ Sm 3 ((b : Int) - 2) ∧ Sm 3 (q : Int) := by
  obtain ⟨h1,h2,h3,h4⟩ := h
  exact ⟨sm3 (by lia),sm3 (by lia),sm3 (by lia)⟩
theorem two_rn {W c : Nat} : Rn W (Nat.add (nat_lit 2) c) (2 + (c : Int)) := Rn.add Rn_2 (Rn.ofNat c)
structure Cnts (ls : List (Int × Int)) (m0 m1 m2 m3 u : Nat) : Prop where
  a : cntL q0 ls = m0
  b : cntL q1 ls = m1
  c : cntL q2 ls = m2
  d : cntL q3 ls = m3
  e : unlL ls = u
theorem cnts0 : Cnts [] 0 0 0 0 0 := ⟨rfl,rfl,rfl,rfl,rfl⟩
theorem cnts1 {p q : Nat} (o : (Pt.ln p q).Ok) : Cnts [lnI p q] (c0N p q) (c1N p q) (c2N p q) (c3N p q) (un1 (kyN p q)) := by
  obtain ⟨_,a,b,c,d,e⟩ := line_all o
  exact ⟨a,b,c,d,unl_1 e⟩
theorem cnts2 {p q p' q' : Nat} (o : (Pt.ln p q).Ok) (o' : (Pt.ln p' q').Ok) : Cnts [lnI p q,lnI p' q'] (Nat.add (c0N p q) (c0N p' q')) (Nat.add (c1N p q) (c1N p' q')) (Nat.add (c2N p q) (c2N p' q')) (Nat.add (c3N p q) (c3N p' q')) (un2 (kyN p q) (kyN p' q')) := by
  obtain ⟨_,a,b,c,d,e⟩ := line_all o
  obtain ⟨_,a',b',c',d',e'⟩ := line_all o'
  exact ⟨by rw [cntL_cons,a,a']; rfl,by rw [cntL_cons,b,b']; rfl,by rw [cntL_cons,c,c']; rfl,by rw [cntL_cons,d,d']; rfl,unl_2 e e'⟩
theorem cnts2' {p q p' q' : Nat} (o : (Pt.ln p q).Ok) (o' : (Pt.ln p' q').Ok) : Cnts [lnI p' q',lnI p q] (Nat.add (c0N p q) (c0N p' q')) (Nat.add (c1N p q) (c1N p' q')) (Nat.add (c2N p q) (c2N p' q')) (Nat.add (c3N p q) (c3N p' q')) (un2 (kyN p q) (kyN p' q')) := by
  have h := cnts2 o' o
  exact ⟨h.a.trans (Nat.add_comm _ _),h.b.trans (Nat.add_comm _ _),h.c.trans (Nat.add_comm _ _),h.d.trans (Nat.add_comm _ _),h.e.trans (un2_comm _ _)⟩
theorem cnts3 {p q p' q' p'' q'' : Nat} (o : (Pt.ln p q).Ok) (o' : (Pt.ln p' q').Ok) (o'' : (Pt.ln p'' q'').Ok) : Cnts [lnI p q,lnI p' q',lnI p'' q''] (Nat.add (c0N p q) (Nat.add (c0N p' q') (c0N p'' q''))) (Nat.add (c1N p q) (Nat.add (c1N p' q') (c1N p'' q''))) (Nat.add (c2N p q) (Nat.add (c2N p' q') (c2N p'' q''))) (Nat.add (c3N p q) (Nat.add (c3N p' q') (c3N p'' q''))) (un3 (kyN p q) (kyN p' q') (kyN p'' q'')) := by
  obtain ⟨_,a,b,c,d,e⟩ := line_all o
  obtain ⟨_,a',b',c',d',e'⟩ := line_all o'
  obtain ⟨_,a'',b'',c'',d'',e''⟩ := line_all o''
  exact ⟨by rw [cntL_cons,cntL_cons _ (lnI p' q'),a,a',a'']; rfl,by rw [cntL_cons,cntL_cons _ (lnI p' q'),b,b',b'']; rfl,by rw [cntL_cons,cntL_cons _ (lnI p' q'),c,c',c'']; rfl,by rw [cntL_cons,cntL_cons _ (lnI p' q'),d,d',d'']; rfl,unl_3 e e' e''⟩
theorem lines_nil : linesOf [] = [] := rfl
theorem lines_ln (p q : Nat) (r : List Pt) : linesOf ((Pt.ln p q :: r).map Pt.toL) = lnI p q :: linesOf (r.map Pt.toL) := rfl
theorem lines_qd (c b q : Nat) (r : List Pt) : linesOf ((Pt.qd c b q :: r).map Pt.toL) = linesOf (r.map Pt.toL) := rfl
theorem lines_ok : ∀ {pts : List Pt},(∀ x ∈ pts,x.Ok) → ∀ y ∈ linesOf (pts.map Pt.toL),LnOk y
  | [],_,y,hy => nomatch hy
  | .ln p q :: r,h,y,hy => by
    rw [lines_ln] at hy
    cases hy with
    | head => exact ln_ok (h _ (.head _))
    | tail _ q => exact lines_ok (fun x u => h x (.tail _ u)) y q
  | .qd c b q :: r,h,y,hy => by
    rw [lines_qd] at hy
    exact lines_ok (fun x u => h x (.tail _ u)) y hy
theorem parts_gd {pts : List Pt} (h : ∀ x ∈ pts,x.Ok) : ∀ p ∈ pts.map Pt.toL,p ≠ [] ∧ Gd 10 10 p := fun p hp => by
  obtain ⟨x,hx,rfl⟩ := List.mem_map.mp hp
  exact toL_gd (h x hx)
theorem lawT_2 {pts : List Pt} {a b : Int} {m0 m1 m2 m3 u : Nat} (hok : ∀ x ∈ pts,x.Ok) (hl : pts.length ≤ 3) (hs : ∀ x ∈ [a,b],Sm 12 x) (h0 : b > 0) (hf : (pts.map Pt.toL).foldl mulL [1] = [a,b]) (hc : Cnts (linesOf (pts.map Pt.toL)) m0 m1 m2 m3 u) (hR : RowsOk (ck [a,b]) (ck (leftL [a,b])) (ck (shL (leftL [a,b]))) m0 m1 m2 m3) (hS : SturmOk [b,a] u) : LawT pts := by
  obtain ⟨ca,cb,cc,cd,ce⟩ := hc
  refine law_2 (sm12 (hs a (by simp))) (sm12 (hs b (by simp))) (by lia) (parts_gd hok) (by simpa using hl) hf (lines_ok hok) ?_ ?_
  · rw [ca,cb,cc,cd]; exact hR
  · rw [ce]; exact hS
theorem lawT_3 {pts : List Pt} {a b c : Int} {m0 m1 m2 m3 u : Nat} (hok : ∀ x ∈ pts,x.Ok) (hl : pts.length ≤ 3) (hs : ∀ x ∈ [a,b,c],Sm 12 x) (h0 : c > 0) (hf : (pts.map Pt.toL).foldl mulL [1] = [a,b,c]) (hc : Cnts (linesOf (pts.map Pt.toL)) m0 m1 m2 m3 u) (hR : RowsOk (ck [a,b,c]) (ck (leftL [a,b,c])) (ck (shL (leftL [a,b,c]))) m0 m1 m2 m3) (hS : SturmOk [c,b,a] u) : LawT pts := by
  obtain ⟨ca,cb,cc,cd,ce⟩ := hc
  refine law_3 (sm12 (hs a (by simp))) (sm12 (hs b (by simp))) (sm12 (hs c (by simp))) (by lia) (parts_gd hok) (by simpa using hl) hf (lines_ok hok) ?_ ?_
  · rw [ca,cb,cc,cd]; exact hR
  · rw [ce]; exact hS
theorem lawT_4 {pts : List Pt} {a b c d : Int} {m0 m1 m2 m3 u : Nat} (hok : ∀ x ∈ pts,x.Ok) (hl : pts.length ≤ 3) (hs : ∀ x ∈ [a,b,c,d],Sm 12 x) (h0 : d > 0) (hf : (pts.map Pt.toL).foldl mulL [1] = [a,b,c,d]) (hc : Cnts (linesOf (pts.map Pt.toL)) m0 m1 m2 m3 u) (hR : RowsOk (ck [a,b,c,d]) (ck (leftL [a,b,c,d])) (ck (shL (leftL [a,b,c,d]))) m0 m1 m2 m3) (hS : SturmOk [d,c,b,a] u) : LawT pts := by
  obtain ⟨ca,cb,cc,cd,ce⟩ := hc
  refine law_4 (sm12 (hs a (by simp))) (sm12 (hs b (by simp))) (sm12 (hs c (by simp))) (sm12 (hs d (by simp))) (by lia) (parts_gd hok) (by simpa using hl) hf (lines_ok hok) ?_ ?_
  · rw [ca,cb,cc,cd]; exact hR
  · rw [ce]; exact hS
theorem lawT_5 {pts : List Pt} {a b c d e : Int} {m0 m1 m2 m3 u : Nat} (hok : ∀ x ∈ pts,x.Ok) (hl : pts.length ≤ 3) (hs : ∀ x ∈ [a,b,c,d,e],Sm 12 x) (h0 : e > 0) (hf : (pts.map Pt.toL).foldl mulL [1] = [a,b,c,d,e]) (hc : Cnts (linesOf (pts.map Pt.toL)) m0 m1 m2 m3 u) (hR : RowsOk (ck [a,b,c,d,e]) (ck (leftL [a,b,c,d,e])) (ck (shL (leftL [a,b,c,d,e]))) m0 m1 m2 m3) (hS : SturmOk [e,d,c,b,a] u) : LawT pts := by
  obtain ⟨ca,cb,cc,cd,ce⟩ := hc
  refine law_5 (sm12 (hs a (by simp))) (sm12 (hs b (by simp))) (sm12 (hs c (by simp))) (sm12 (hs d (by simp))) (sm12 (hs e (by simp))) (by lia) (parts_gd hok) (by simpa using hl) hf (lines_ok hok) ?_ ?_
  · rw [ca,cb,cc,cd]; exact hR
  · rw [ce]; exact hS
noncomputable def iGL0 (w v x y : Int) : Int := (w * x)
noncomputable def nGL0 (W M w v x y : Nat) : Nat := Nat.mod (Nat.mul w x) W
theorem rGL0 {W M w' v' x' y' : Nat} {w v x y : Int} (hM : M + 1 = W) (rw : Rn W w' w) (rv : Rn W v' v) (rx : Rn W x' x) (ry : Rn W y' y) : Rn W (nGL0 W M w' v' x' y') (iGL0 w v x y) := Rn.mod (Rn.mul rw rx)
theorem sGL0 {w v x y : Int} (sw : Sm 3 w) (sv : Sm 3 v) (sx : Sm 3 x) (sy : Sm 3 y) : Sm 12 (iGL0 w v x y) := Sm.mono (Sm.mul sw sx) (show 6 ≤ 12 by decide)
noncomputable def iGL1 (w v x y : Int) : Int := ((w * y) + (v * x))
noncomputable def nGL1 (W M w v x y : Nat) : Nat := Nat.mod (Nat.add (Nat.mul w y) (Nat.mul v x)) W
theorem rGL1 {W M w' v' x' y' : Nat} {w v x y : Int} (hM : M + 1 = W) (rw : Rn W w' w) (rv : Rn W v' v) (rx : Rn W x' x) (ry : Rn W y' y) : Rn W (nGL1 W M w' v' x' y') (iGL1 w v x y) := Rn.mod (Rn.add (Rn.mul rw ry) (Rn.mul rv rx))
theorem sGL1 {w v x y : Int} (sw : Sm 3 w) (sv : Sm 3 v) (sx : Sm 3 x) (sy : Sm 3 y) : Sm 12 (iGL1 w v x y) := Sm.mono (sm_add (Sm.mul sw sy) (Sm.mul sv sx)) (show 7 ≤ 12 by decide)
noncomputable def iGL2 (w v x y : Int) : Int := (v * y)
noncomputable def nGL2 (W M w v x y : Nat) : Nat := Nat.mod (Nat.mul v y) W
theorem rGL2 {W M w' v' x' y' : Nat} {w v x y : Int} (hM : M + 1 = W) (rw : Rn W w' w) (rv : Rn W v' v) (rx : Rn W x' x) (ry : Rn W y' y) : Rn W (nGL2 W M w' v' x' y') (iGL2 w v x y) := Rn.mod (Rn.mul rv ry)
theorem sGL2 {w v x y : Int} (sw : Sm 3 w) (sv : Sm 3 v) (sx : Sm 3 x) (sy : Sm 3 y) : Sm 12 (iGL2 w v x y) := Sm.mono (Sm.mul sv sy) (show 6 ≤ 12 by decide)
noncomputable def iGQ0 (w v d0 d1 d2 : Int) : Int := (w * d0)
noncomputable def nGQ0 (W M w v d0 d1 d2 : Nat) : Nat := Nat.mod (Nat.mul w d0) W
theorem rGQ0 {W M w' v' d0' d1' d2' : Nat} {w v d0 d1 d2 : Int} (hM : M + 1 = W) (rw : Rn W w' w) (rv : Rn W v' v) (rd0 : Rn W d0' d0) (rd1 : Rn W d1' d1) (rd2 : Rn W d2' d2) : Rn W (nGQ0 W M w' v' d0' d1' d2') (iGQ0 w v d0 d1 d2) := Rn.mod (Rn.mul rw rd0)
theorem sGQ0 {w v d0 d1 d2 : Int} (sw : Sm 3 w) (sv : Sm 3 v) (sd0 : Sm 3 d0) (sd1 : Sm 3 d1) (sd2 : Sm 3 d2) : Sm 12 (iGQ0 w v d0 d1 d2) := Sm.mono (Sm.mul sw sd0) (show 6 ≤ 12 by decide)
noncomputable def iGQ1 (w v d0 d1 d2 : Int) : Int := ((w * d1) + (v * d0))
noncomputable def nGQ1 (W M w v d0 d1 d2 : Nat) : Nat := Nat.mod (Nat.add (Nat.mul w d1) (Nat.mul v d0)) W
theorem rGQ1 {W M w' v' d0' d1' d2' : Nat} {w v d0 d1 d2 : Int} (hM : M + 1 = W) (rw : Rn W w' w) (rv : Rn W v' v) (rd0 : Rn W d0' d0) (rd1 : Rn W d1' d1) (rd2 : Rn W d2' d2) : Rn W (nGQ1 W M w' v' d0' d1' d2') (iGQ1 w v d0 d1 d2) := Rn.mod (Rn.add (Rn.mul rw rd1) (Rn.mul rv rd0))
theorem sGQ1 {w v d0 d1 d2 : Int} (sw : Sm 3 w) (sv : Sm 3 v) (sd0 : Sm 3 d0) (sd1 : Sm 3 d1) (sd2 : Sm 3 d2) : Sm 12 (iGQ1 w v d0 d1 d2) := Sm.mono (sm_add (Sm.mul sw sd1) (Sm.mul sv sd0)) (show 7 ≤ 12 by decide)
noncomputable def iGQ2 (w v d0 d1 d2 : Int) : Int := ((w * d2) + (v * d1))
noncomputable def nGQ2 (W M w v d0 d1 d2 : Nat) : Nat := Nat.mod (Nat.add (Nat.mul w d2) (Nat.mul v d1)) W
theorem rGQ2 {W M w' v' d0' d1' d2' : Nat} {w v d0 d1 d2 : Int} (hM : M + 1 = W) (rw : Rn W w' w) (rv : Rn W v' v) (rd0 : Rn W d0' d0) (rd1 : Rn W d1' d1) (rd2 : Rn W d2' d2) : Rn W (nGQ2 W M w' v' d0' d1' d2') (iGQ2 w v d0 d1 d2) := Rn.mod (Rn.add (Rn.mul rw rd2) (Rn.mul rv rd1))
theorem sGQ2 {w v d0 d1 d2 : Int} (sw : Sm 3 w) (sv : Sm 3 v) (sd0 : Sm 3 d0) (sd1 : Sm 3 d1) (sd2 : Sm 3 d2) : Sm 12 (iGQ2 w v d0 d1 d2) := Sm.mono (sm_add (Sm.mul sw sd2) (Sm.mul sv sd1)) (show 7 ≤ 12 by decide)
noncomputable def iGQ3 (w v d0 d1 d2 : Int) : Int := (v * d2)
noncomputable def nGQ3 (W M w v d0 d1 d2 : Nat) : Nat := Nat.mod (Nat.mul v d2) W
theorem rGQ3 {W M w' v' d0' d1' d2' : Nat} {w v d0 d1 d2 : Int} (hM : M + 1 = W) (rw : Rn W w' w) (rv : Rn W v' v) (rd0 : Rn W d0' d0) (rd1 : Rn W d1' d1) (rd2 : Rn W d2' d2) : Rn W (nGQ3 W M w' v' d0' d1' d2') (iGQ3 w v d0 d1 d2) := Rn.mod (Rn.mul rv rd2)
theorem sGQ3 {w v d0 d1 d2 : Int} (sw : Sm 3 w) (sv : Sm 3 v) (sd0 : Sm 3 d0) (sd1 : Sm 3 d1) (sd2 : Sm 3 d2) : Sm 12 (iGQ3 w v d0 d1 d2) := Sm.mono (Sm.mul sv sd2) (show 6 ≤ 12 by decide)
noncomputable def iL0 (x1 y1 : Int) : Int := x1
noncomputable def nL0 (W M x1 y1 : Nat) : Nat := Nat.mod x1 W
theorem rL0 {W M x1' y1' : Nat} {x1 y1 : Int} (hM : M + 1 = W) (rx1 : Rn W x1' x1) (ry1 : Rn W y1' y1) : Rn W (nL0 W M x1' y1') (iL0 x1 y1) := Rn.mod rx1
theorem sL0 {x1 y1 : Int} (sx1 : Sm 3 x1) (sy1 : Sm 3 y1) : Sm 12 (iL0 x1 y1) := Sm.mono sx1 (show 3 ≤ 12 by decide)
noncomputable def iL1 (x1 y1 : Int) : Int := y1
noncomputable def nL1 (W M x1 y1 : Nat) : Nat := Nat.mod y1 W
theorem rL1 {W M x1' y1' : Nat} {x1 y1 : Int} (hM : M + 1 = W) (rx1 : Rn W x1' x1) (ry1 : Rn W y1' y1) : Rn W (nL1 W M x1' y1') (iL1 x1 y1) := Rn.mod ry1
theorem sL1 {x1 y1 : Int} (sx1 : Sm 3 x1) (sy1 : Sm 3 y1) : Sm 12 (iL1 x1 y1) := Sm.mono sy1 (show 3 ≤ 12 by decide)
noncomputable def kL (W M H T p1 q1 m0 m1 m2 m3 u : Nat) : Bool := (fun (f0 f1 : Nat) => (Bool.rec false (fin (ch T (sg W M H f0) (sg W M H f1) (nat_lit 0) (nat_lit 0) (nat_lit 0)) (ch T (sg W M H (Nat.add f1 f0)) (sg W M H f1) (nat_lit 0) (nat_lit 0) (nat_lit 0)) u) (Nat.beq (rd2 W M H T f0 f1 m0 m1 m2 m3) (nat_lit 0)))) (nL0 W M (lx W p1) q1) (nL1 W M (lx W p1) q1)
theorem kL_spec {W M H p1 q1 m0 m1 m2 m3 u : Nat} (q : Mods W M H) (o1 : (Pt.ln p1 q1).Ok) (h : kL W M H tab p1 q1 m0 m1 m2 m3 u = true) :
    (∀ x ∈ [(iL0 (1 - (p1 : Int)) (q1 : Int)),(iL1 (1 - (p1 : Int)) (q1 : Int))],Sm 12 x) ∧ (iL1 (1 - (p1 : Int)) (q1 : Int)) > 0 ∧ RowsOk (ck [(iL0 (1 - (p1 : Int)) (q1 : Int)),(iL1 (1 - (p1 : Int)) (q1 : Int))]) (ck (leftL [(iL0 (1 - (p1 : Int)) (q1 : Int)),(iL1 (1 - (p1 : Int)) (q1 : Int))])) (ck (shL (leftL [(iL0 (1 - (p1 : Int)) (q1 : Int)),(iL1 (1 - (p1 : Int)) (q1 : Int))]))) m0 m1 m2 m3 ∧ SturmOk [(iL1 (1 - (p1 : Int)) (q1 : Int)),(iL0 (1 - (p1 : Int)) (q1 : Int))] u := by
  have hM := q.m
  have hB := mods_big q
  have rf0 := rL0 hM (lx_rn (p := p1) (by have := o1.1; lia)) (Rn.ofNat q1)
  have sf0 := sL0 (ln_int o1).1 (ln_int o1).2
  have rf1 := rL1 hM (lx_rn (p := p1) (by have := o1.1; lia)) (Rn.ofNat q1)
  have sf1 := sL1 (ln_int o1).1 (ln_int o1).2
  have hpos : (iL1 (1 - (p1 : Int)) (q1 : Int)) > 0 := (show (q1 : Int) > 0 by have := o1.2.1; lia)
  have hS12 : ∀ x ∈ [(iL0 (1 - (p1 : Int)) (q1 : Int)),(iL1 (1 - (p1 : Int)) (q1 : Int))],Sm 12 x := fun x hx => by
    simp only [List.mem_cons,List.not_mem_nil,or_false] at hx
    rcases hx with rfl | rfl
    · exact sf0
    · exact sf1
  have hG : Gd 100 20 [(iL1 (1 - (p1 : Int)) (q1 : Int)),(iL0 (1 - (p1 : Int)) (q1 : Int))] := ⟨by simp,fun x hx => by
    simp only [List.mem_cons,List.not_mem_nil,or_false] at hx
    rcases hx with rfl | rfl
    · exact sf1.mono (by decide)
    · exact sf0.mono (by decide)⟩
  unfold kL at h
  dsimp only at h
  obtain ⟨h1,h2⟩ := rec_and h
  have h1 := Nat.eq_of_beq_eq_true h1
  refine ⟨hS12,hpos,rd2_spec q rf0 (sm12 sf0) rf1 (sm12 sf1) h1,?_⟩
  have h2 := Nat.eq_of_beq_eq_true h2
  rw [sg_spec q rf0 sf0 (by decide),sg_spec q rf1 sf1 (by decide),sg_spec q (rf1.add rf0) (sm_add sf1 sf0) (by decide),ch_spec2,ch_spec2] at h2
  exact s2_ok hG hpos h2
noncomputable def gL (W M H T p1 q1 : Nat) : Bool := kL W M H T p1 q1 (c0N p1 q1) (c1N p1 q1) (c2N p1 q1) (c3N p1 q1) (un1 (kyN p1 q1))
theorem gL_spec {W M H p1 q1 : Nat} (q : Mods W M H) (o1 : (Pt.ln p1 q1).Ok) (h : gL W M H tab p1 q1 = true) : LawT [Pt.ln p1 q1] := by
  obtain ⟨h1,h2,h3,h4⟩ := kL_spec q o1 h
  · refine lawT_2 (?_ : ∀ x ∈ _,Pt.Ok x) (by simp) h1 h2 ?_ (cnts1 o1) h3 h4
    · intro x hx
      simp only [List.mem_cons,List.not_mem_nil,or_false] at hx
      rcases hx with rfl
      · exact o1
    · show mulL [1] [(1 - (p1 : Int)),(q1 : Int)] = _
      rw [mul_1_2]
      simp only [List.cons.injEq,and_true,iL0,iL1] <;> and_intros <;> grind
noncomputable def iQ0 (u1 v1 w1 : Int) : Int := u1
noncomputable def nQ0 (W M u1 v1 w1 : Nat) : Nat := Nat.mod u1 W
theorem rQ0 {W M u1' v1' w1' : Nat} {u1 v1 w1 : Int} (hM : M + 1 = W) (ru1 : Rn W u1' u1) (rv1 : Rn W v1' v1) (rw1 : Rn W w1' w1) : Rn W (nQ0 W M u1' v1' w1') (iQ0 u1 v1 w1) := Rn.mod ru1
theorem sQ0 {u1 v1 w1 : Int} (su1 : Sm 3 u1) (sv1 : Sm 3 v1) (sw1 : Sm 3 w1) : Sm 12 (iQ0 u1 v1 w1) := Sm.mono su1 (show 3 ≤ 12 by decide)
noncomputable def iQ1 (u1 v1 w1 : Int) : Int := v1
noncomputable def nQ1 (W M u1 v1 w1 : Nat) : Nat := Nat.mod v1 W
theorem rQ1 {W M u1' v1' w1' : Nat} {u1 v1 w1 : Int} (hM : M + 1 = W) (ru1 : Rn W u1' u1) (rv1 : Rn W v1' v1) (rw1 : Rn W w1' w1) : Rn W (nQ1 W M u1' v1' w1') (iQ1 u1 v1 w1) := Rn.mod rv1
theorem sQ1 {u1 v1 w1 : Int} (su1 : Sm 3 u1) (sv1 : Sm 3 v1) (sw1 : Sm 3 w1) : Sm 12 (iQ1 u1 v1 w1) := Sm.mono sv1 (show 3 ≤ 12 by decide)
noncomputable def iQ2 (u1 v1 w1 : Int) : Int := w1
noncomputable def nQ2 (W M u1 v1 w1 : Nat) : Nat := Nat.mod w1 W
theorem rQ2 {W M u1' v1' w1' : Nat} {u1 v1 w1 : Int} (hM : M + 1 = W) (ru1 : Rn W u1' u1) (rv1 : Rn W v1' v1) (rw1 : Rn W w1' w1) : Rn W (nQ2 W M u1' v1' w1') (iQ2 u1 v1 w1) := Rn.mod rw1
theorem sQ2 {u1 v1 w1 : Int} (su1 : Sm 3 u1) (sv1 : Sm 3 v1) (sw1 : Sm 3 w1) : Sm 12 (iQ2 u1 v1 w1) := Sm.mono sw1 (show 3 ≤ 12 by decide)
noncomputable def kQ (W M H T c1 b1 r1 m0 m1 m2 m3 u : Nat) : Bool := (fun (f0 f1 f2 : Nat) => (Bool.rec false (sN3 W M H T f2 f1 f0 u false) (Nat.beq (rd3 W M H T f0 f1 f2 m0 m1 m2 m3) (nat_lit 0)))) (nQ0 W M (Nat.add (nat_lit 2) c1) (qb W b1) r1) (nQ1 W M (Nat.add (nat_lit 2) c1) (qb W b1) r1) (nQ2 W M (Nat.add (nat_lit 2) c1) (qb W b1) r1)
theorem kQ_spec {W M H c1 b1 r1 m0 m1 m2 m3 u : Nat} (q : Mods W M H) (o1 : (Pt.qd c1 b1 r1).Ok) (h : kQ W M H tab c1 b1 r1 m0 m1 m2 m3 u = true) :
    (∀ x ∈ [(iQ0 (2 + (c1 : Int)) ((b1 : Int) - 2) (r1 : Int)),(iQ1 (2 + (c1 : Int)) ((b1 : Int) - 2) (r1 : Int)),(iQ2 (2 + (c1 : Int)) ((b1 : Int) - 2) (r1 : Int))],Sm 12 x) ∧ (iQ2 (2 + (c1 : Int)) ((b1 : Int) - 2) (r1 : Int)) > 0 ∧ RowsOk (ck [(iQ0 (2 + (c1 : Int)) ((b1 : Int) - 2) (r1 : Int)),(iQ1 (2 + (c1 : Int)) ((b1 : Int) - 2) (r1 : Int)),(iQ2 (2 + (c1 : Int)) ((b1 : Int) - 2) (r1 : Int))]) (ck (leftL [(iQ0 (2 + (c1 : Int)) ((b1 : Int) - 2) (r1 : Int)),(iQ1 (2 + (c1 : Int)) ((b1 : Int) - 2) (r1 : Int)),(iQ2 (2 + (c1 : Int)) ((b1 : Int) - 2) (r1 : Int))])) (ck (shL (leftL [(iQ0 (2 + (c1 : Int)) ((b1 : Int) - 2) (r1 : Int)),(iQ1 (2 + (c1 : Int)) ((b1 : Int) - 2) (r1 : Int)),(iQ2 (2 + (c1 : Int)) ((b1 : Int) - 2) (r1 : Int))]))) m0 m1 m2 m3 ∧ SturmOk [(iQ2 (2 + (c1 : Int)) ((b1 : Int) - 2) (r1 : Int)),(iQ1 (2 + (c1 : Int)) ((b1 : Int) - 2) (r1 : Int)),(iQ0 (2 + (c1 : Int)) ((b1 : Int) - 2) (r1 : Int))] u := by
  have hM := q.m
  have hB := mods_big q
  have rf0 := rQ0 hM (two_rn (c := c1)) (qb_rn (b := b1) (by lia)) (Rn.ofNat r1)
  have sf0 := sQ0 (qd_int o1).1 (qd_int o1).2.1 (qd_int o1).2.2
  have rf1 := rQ1 hM (two_rn (c := c1)) (qb_rn (b := b1) (by lia)) (Rn.ofNat r1)
  have sf1 := sQ1 (qd_int o1).1 (qd_int o1).2.1 (qd_int o1).2.2
  have rf2 := rQ2 hM (two_rn (c := c1)) (qb_rn (b := b1) (by lia)) (Rn.ofNat r1)
  have sf2 := sQ2 (qd_int o1).1 (qd_int o1).2.1 (qd_int o1).2.2
  have hpos : (iQ2 (2 + (c1 : Int)) ((b1 : Int) - 2) (r1 : Int)) > 0 := (show (r1 : Int) > 0 by have := o1.2.2.1; lia)
  have hS12 : ∀ x ∈ [(iQ0 (2 + (c1 : Int)) ((b1 : Int) - 2) (r1 : Int)),(iQ1 (2 + (c1 : Int)) ((b1 : Int) - 2) (r1 : Int)),(iQ2 (2 + (c1 : Int)) ((b1 : Int) - 2) (r1 : Int))],Sm 12 x := fun x hx => by
    simp only [List.mem_cons,List.not_mem_nil,or_false] at hx
    rcases hx with rfl | rfl | rfl
    · exact sf0
    · exact sf1
    · exact sf2
  have hG : Gd 100 20 [(iQ2 (2 + (c1 : Int)) ((b1 : Int) - 2) (r1 : Int)),(iQ1 (2 + (c1 : Int)) ((b1 : Int) - 2) (r1 : Int)),(iQ0 (2 + (c1 : Int)) ((b1 : Int) - 2) (r1 : Int))] := ⟨by simp,fun x hx => by
    simp only [List.mem_cons,List.not_mem_nil,or_false] at hx
    rcases hx with rfl | rfl | rfl
    · exact sf2.mono (by decide)
    · exact sf1.mono (by decide)
    · exact sf0.mono (by decide)⟩
  unfold kQ at h
  dsimp only at h
  obtain ⟨h1,h2⟩ := rec_and h
  have h1 := Nat.eq_of_beq_eq_true h1
  refine ⟨hS12,hpos,rd3_spec q rf0 (sm12 sf0) rf1 (sm12 sf1) rf2 (sm12 sf2) h1,?_⟩
  rcases sN3_spec q rf2 rf1 rf0 hG hpos h2 with h3 | h3
  · exact h3.ok
  · cases h3
noncomputable def gQ (W M H T c1 b1 r1 : Nat) : Bool := kQ W M H T c1 b1 r1 (nat_lit 0) (nat_lit 0) (nat_lit 0) (nat_lit 0) (nat_lit 0)
theorem gQ_spec {W M H c1 b1 r1 : Nat} (q : Mods W M H) (o1 : (Pt.qd c1 b1 r1).Ok) (h : gQ W M H tab c1 b1 r1 = true) : LawT [Pt.qd c1 b1 r1] := by
  obtain ⟨h1,h2,h3,h4⟩ := kQ_spec q o1 h
  · refine lawT_3 (?_ : ∀ x ∈ _,Pt.Ok x) (by simp) h1 h2 ?_ (cnts0) h3 h4
    · intro x hx
      simp only [List.mem_cons,List.not_mem_nil,or_false] at hx
      rcases hx with rfl
      · exact o1
    · show mulL [1] [(2 + (c1 : Int)),((b1 : Int) - 2),(r1 : Int)] = _
      rw [mul_1_3]
      simp only [List.cons.injEq,and_true,iQ0,iQ1,iQ2] <;> and_intros <;> grind
noncomputable def iLL0 (x1 y1 x2 y2 : Int) : Int := (x1 * x2)
noncomputable def nLL0 (W M x1 y1 x2 y2 : Nat) : Nat := Nat.mod (Nat.mul x1 x2) W
theorem rLL0 {W M x1' y1' x2' y2' : Nat} {x1 y1 x2 y2 : Int} (hM : M + 1 = W) (rx1 : Rn W x1' x1) (ry1 : Rn W y1' y1) (rx2 : Rn W x2' x2) (ry2 : Rn W y2' y2) : Rn W (nLL0 W M x1' y1' x2' y2') (iLL0 x1 y1 x2 y2) := Rn.mod (Rn.mul rx1 rx2)
theorem sLL0 {x1 y1 x2 y2 : Int} (sx1 : Sm 3 x1) (sy1 : Sm 3 y1) (sx2 : Sm 3 x2) (sy2 : Sm 3 y2) : Sm 12 (iLL0 x1 y1 x2 y2) := Sm.mono (Sm.mul sx1 sx2) (show 6 ≤ 12 by decide)
noncomputable def iLL1 (x1 y1 x2 y2 : Int) : Int := ((x1 * y2) + (y1 * x2))
noncomputable def nLL1 (W M x1 y1 x2 y2 : Nat) : Nat := Nat.mod (Nat.add (Nat.mul x1 y2) (Nat.mul y1 x2)) W
theorem rLL1 {W M x1' y1' x2' y2' : Nat} {x1 y1 x2 y2 : Int} (hM : M + 1 = W) (rx1 : Rn W x1' x1) (ry1 : Rn W y1' y1) (rx2 : Rn W x2' x2) (ry2 : Rn W y2' y2) : Rn W (nLL1 W M x1' y1' x2' y2') (iLL1 x1 y1 x2 y2) := Rn.mod (Rn.add (Rn.mul rx1 ry2) (Rn.mul ry1 rx2))
theorem sLL1 {x1 y1 x2 y2 : Int} (sx1 : Sm 3 x1) (sy1 : Sm 3 y1) (sx2 : Sm 3 x2) (sy2 : Sm 3 y2) : Sm 12 (iLL1 x1 y1 x2 y2) := Sm.mono (sm_add (Sm.mul sx1 sy2) (Sm.mul sy1 sx2)) (show 7 ≤ 12 by decide)
noncomputable def iLL2 (x1 y1 x2 y2 : Int) : Int := (y1 * y2)
noncomputable def nLL2 (W M x1 y1 x2 y2 : Nat) : Nat := Nat.mod (Nat.mul y1 y2) W
theorem rLL2 {W M x1' y1' x2' y2' : Nat} {x1 y1 x2 y2 : Int} (hM : M + 1 = W) (rx1 : Rn W x1' x1) (ry1 : Rn W y1' y1) (rx2 : Rn W x2' x2) (ry2 : Rn W y2' y2) : Rn W (nLL2 W M x1' y1' x2' y2') (iLL2 x1 y1 x2 y2) := Rn.mod (Rn.mul ry1 ry2)
theorem sLL2 {x1 y1 x2 y2 : Int} (sx1 : Sm 3 x1) (sy1 : Sm 3 y1) (sx2 : Sm 3 x2) (sy2 : Sm 3 y2) : Sm 12 (iLL2 x1 y1 x2 y2) := Sm.mono (Sm.mul sy1 sy2) (show 6 ≤ 12 by decide)
noncomputable def kLL (W M H T p1 q1 p2 q2 m0 m1 m2 m3 u : Nat) : Bool := (fun (f0 f1 f2 : Nat) => (Bool.rec false (sN3 W M H T f2 f1 f0 u (genI [(iLL2 (1 - (p1 : Int)) (q1 : Int) (1 - (p2 : Int)) (q2 : Int)),(iLL1 (1 - (p1 : Int)) (q1 : Int) (1 - (p2 : Int)) (q2 : Int)),(iLL0 (1 - (p1 : Int)) (q1 : Int) (1 - (p2 : Int)) (q2 : Int))] u)) (Nat.beq (rd3 W M H T f0 f1 f2 m0 m1 m2 m3) (nat_lit 0)))) (nLL0 W M (lx W p1) q1 (lx W p2) q2) (nLL1 W M (lx W p1) q1 (lx W p2) q2) (nLL2 W M (lx W p1) q1 (lx W p2) q2)
theorem kLL_spec {W M H p1 q1 p2 q2 m0 m1 m2 m3 u : Nat} (q : Mods W M H) (o1 : (Pt.ln p1 q1).Ok) (o2 : (Pt.ln p2 q2).Ok) (h : kLL W M H tab p1 q1 p2 q2 m0 m1 m2 m3 u = true) :
    (∀ x ∈ [(iLL0 (1 - (p1 : Int)) (q1 : Int) (1 - (p2 : Int)) (q2 : Int)),(iLL1 (1 - (p1 : Int)) (q1 : Int) (1 - (p2 : Int)) (q2 : Int)),(iLL2 (1 - (p1 : Int)) (q1 : Int) (1 - (p2 : Int)) (q2 : Int))],Sm 12 x) ∧ (iLL2 (1 - (p1 : Int)) (q1 : Int) (1 - (p2 : Int)) (q2 : Int)) > 0 ∧ RowsOk (ck [(iLL0 (1 - (p1 : Int)) (q1 : Int) (1 - (p2 : Int)) (q2 : Int)),(iLL1 (1 - (p1 : Int)) (q1 : Int) (1 - (p2 : Int)) (q2 : Int)),(iLL2 (1 - (p1 : Int)) (q1 : Int) (1 - (p2 : Int)) (q2 : Int))]) (ck (leftL [(iLL0 (1 - (p1 : Int)) (q1 : Int) (1 - (p2 : Int)) (q2 : Int)),(iLL1 (1 - (p1 : Int)) (q1 : Int) (1 - (p2 : Int)) (q2 : Int)),(iLL2 (1 - (p1 : Int)) (q1 : Int) (1 - (p2 : Int)) (q2 : Int))])) (ck (shL (leftL [(iLL0 (1 - (p1 : Int)) (q1 : Int) (1 - (p2 : Int)) (q2 : Int)),(iLL1 (1 - (p1 : Int)) (q1 : Int) (1 - (p2 : Int)) (q2 : Int)),(iLL2 (1 - (p1 : Int)) (q1 : Int) (1 - (p2 : Int)) (q2 : Int))]))) m0 m1 m2 m3 ∧ SturmOk [(iLL2 (1 - (p1 : Int)) (q1 : Int) (1 - (p2 : Int)) (q2 : Int)),(iLL1 (1 - (p1 : Int)) (q1 : Int) (1 - (p2 : Int)) (q2 : Int)),(iLL0 (1 - (p1 : Int)) (q1 : Int) (1 - (p2 : Int)) (q2 : Int))] u := by
  have hM := q.m
  have hB := mods_big q
  have rf0 := rLL0 hM (lx_rn (p := p1) (by have := o1.1; lia)) (Rn.ofNat q1) (lx_rn (p := p2) (by have := o2.1; lia)) (Rn.ofNat q2)
  have sf0 := sLL0 (ln_int o1).1 (ln_int o1).2 (ln_int o2).1 (ln_int o2).2
  have rf1 := rLL1 hM (lx_rn (p := p1) (by have := o1.1; lia)) (Rn.ofNat q1) (lx_rn (p := p2) (by have := o2.1; lia)) (Rn.ofNat q2)
  have sf1 := sLL1 (ln_int o1).1 (ln_int o1).2 (ln_int o2).1 (ln_int o2).2
  have rf2 := rLL2 hM (lx_rn (p := p1) (by have := o1.1; lia)) (Rn.ofNat q1) (lx_rn (p := p2) (by have := o2.1; lia)) (Rn.ofNat q2)
  have sf2 := sLL2 (ln_int o1).1 (ln_int o1).2 (ln_int o2).1 (ln_int o2).2
  have hpos : (iLL2 (1 - (p1 : Int)) (q1 : Int) (1 - (p2 : Int)) (q2 : Int)) > 0 := (Int.mul_pos (show (q1 : Int) > 0 by have := o1.2.1; lia) (show (q2 : Int) > 0 by have := o2.2.1; lia))
  have hS12 : ∀ x ∈ [(iLL0 (1 - (p1 : Int)) (q1 : Int) (1 - (p2 : Int)) (q2 : Int)),(iLL1 (1 - (p1 : Int)) (q1 : Int) (1 - (p2 : Int)) (q2 : Int)),(iLL2 (1 - (p1 : Int)) (q1 : Int) (1 - (p2 : Int)) (q2 : Int))],Sm 12 x := fun x hx => by
    simp only [List.mem_cons,List.not_mem_nil,or_false] at hx
    rcases hx with rfl | rfl | rfl
    · exact sf0
    · exact sf1
    · exact sf2
  have hG : Gd 100 20 [(iLL2 (1 - (p1 : Int)) (q1 : Int) (1 - (p2 : Int)) (q2 : Int)),(iLL1 (1 - (p1 : Int)) (q1 : Int) (1 - (p2 : Int)) (q2 : Int)),(iLL0 (1 - (p1 : Int)) (q1 : Int) (1 - (p2 : Int)) (q2 : Int))] := ⟨by simp,fun x hx => by
    simp only [List.mem_cons,List.not_mem_nil,or_false] at hx
    rcases hx with rfl | rfl | rfl
    · exact sf2.mono (by decide)
    · exact sf1.mono (by decide)
    · exact sf0.mono (by decide)⟩
  unfold kLL at h
  dsimp only at h
  obtain ⟨h1,h2⟩ := rec_and h
  have h1 := Nat.eq_of_beq_eq_true h1
  refine ⟨hS12,hpos,rd3_spec q rf0 (sm12 sf0) rf1 (sm12 sf1) rf2 (sm12 sf2) h1,?_⟩
  rcases sN3_spec q rf2 rf1 rf0 hG hpos h2 with h3 | h3
  · exact h3.ok
  · exact genI_spec h3
noncomputable def gLL (W M H T p1 q1 p2 q2 : Nat) : Bool := kLL W M H T p1 q1 p2 q2 (Nat.add (c0N p1 q1) (c0N p2 q2)) (Nat.add (c1N p1 q1) (c1N p2 q2)) (Nat.add (c2N p1 q1) (c2N p2 q2)) (Nat.add (c3N p1 q1) (c3N p2 q2)) (un2 (kyN p1 q1) (kyN p2 q2))
theorem gLL_spec {W M H p1 q1 p2 q2 : Nat} (q : Mods W M H) (o1 : (Pt.ln p1 q1).Ok) (o2 : (Pt.ln p2 q2).Ok) (h : gLL W M H tab p1 q1 p2 q2 = true) : LawT [Pt.ln p1 q1,Pt.ln p2 q2] := by
  obtain ⟨h1,h2,h3,h4⟩ := kLL_spec q o1 o2 h
  · refine lawT_3 (?_ : ∀ x ∈ _,Pt.Ok x) (by simp) h1 h2 ?_ (cnts2 o1 o2) h3 h4
    · intro x hx
      simp only [List.mem_cons,List.not_mem_nil,or_false] at hx
      rcases hx with rfl | rfl
      · exact o1
      · exact o2
    · show mulL (mulL [1] [(1 - (p1 : Int)),(q1 : Int)]) [(1 - (p2 : Int)),(q2 : Int)] = _
      rw [mul_1_2,mul_2_2]
      simp only [List.cons.injEq,and_true,iLL0,iLL1,iLL2] <;> and_intros <;> grind
noncomputable def iLQ0 (x1 y1 u2 v2 w2 : Int) : Int := (x1 * u2)
noncomputable def nLQ0 (W M x1 y1 u2 v2 w2 : Nat) : Nat := Nat.mod (Nat.mul x1 u2) W
theorem rLQ0 {W M x1' y1' u2' v2' w2' : Nat} {x1 y1 u2 v2 w2 : Int} (hM : M + 1 = W) (rx1 : Rn W x1' x1) (ry1 : Rn W y1' y1) (ru2 : Rn W u2' u2) (rv2 : Rn W v2' v2) (rw2 : Rn W w2' w2) : Rn W (nLQ0 W M x1' y1' u2' v2' w2') (iLQ0 x1 y1 u2 v2 w2) := Rn.mod (Rn.mul rx1 ru2)
theorem sLQ0 {x1 y1 u2 v2 w2 : Int} (sx1 : Sm 3 x1) (sy1 : Sm 3 y1) (su2 : Sm 3 u2) (sv2 : Sm 3 v2) (sw2 : Sm 3 w2) : Sm 12 (iLQ0 x1 y1 u2 v2 w2) := Sm.mono (Sm.mul sx1 su2) (show 6 ≤ 12 by decide)
noncomputable def iLQ1 (x1 y1 u2 v2 w2 : Int) : Int := ((x1 * v2) + (y1 * u2))
noncomputable def nLQ1 (W M x1 y1 u2 v2 w2 : Nat) : Nat := Nat.mod (Nat.add (Nat.mul x1 v2) (Nat.mul y1 u2)) W
theorem rLQ1 {W M x1' y1' u2' v2' w2' : Nat} {x1 y1 u2 v2 w2 : Int} (hM : M + 1 = W) (rx1 : Rn W x1' x1) (ry1 : Rn W y1' y1) (ru2 : Rn W u2' u2) (rv2 : Rn W v2' v2) (rw2 : Rn W w2' w2) : Rn W (nLQ1 W M x1' y1' u2' v2' w2') (iLQ1 x1 y1 u2 v2 w2) := Rn.mod (Rn.add (Rn.mul rx1 rv2) (Rn.mul ry1 ru2))
theorem sLQ1 {x1 y1 u2 v2 w2 : Int} (sx1 : Sm 3 x1) (sy1 : Sm 3 y1) (su2 : Sm 3 u2) (sv2 : Sm 3 v2) (sw2 : Sm 3 w2) : Sm 12 (iLQ1 x1 y1 u2 v2 w2) := Sm.mono (sm_add (Sm.mul sx1 sv2) (Sm.mul sy1 su2)) (show 7 ≤ 12 by decide)
noncomputable def iLQ2 (x1 y1 u2 v2 w2 : Int) : Int := ((x1 * w2) + (y1 * v2))
noncomputable def nLQ2 (W M x1 y1 u2 v2 w2 : Nat) : Nat := Nat.mod (Nat.add (Nat.mul x1 w2) (Nat.mul y1 v2)) W
theorem rLQ2 {W M x1' y1' u2' v2' w2' : Nat} {x1 y1 u2 v2 w2 : Int} (hM : M + 1 = W) (rx1 : Rn W x1' x1) (ry1 : Rn W y1' y1) (ru2 : Rn W u2' u2) (rv2 : Rn W v2' v2) (rw2 : Rn W w2' w2) : Rn W (nLQ2 W M x1' y1' u2' v2' w2') (iLQ2 x1 y1 u2 v2 w2) := Rn.mod (Rn.add (Rn.mul rx1 rw2) (Rn.mul ry1 rv2))
theorem sLQ2 {x1 y1 u2 v2 w2 : Int} (sx1 : Sm 3 x1) (sy1 : Sm 3 y1) (su2 : Sm 3 u2) (sv2 : Sm 3 v2) (sw2 : Sm 3 w2) : Sm 12 (iLQ2 x1 y1 u2 v2 w2) := Sm.mono (sm_add (Sm.mul sx1 sw2) (Sm.mul sy1 sv2)) (show 7 ≤ 12 by decide)
noncomputable def iLQ3 (x1 y1 u2 v2 w2 : Int) : Int := (y1 * w2)
noncomputable def nLQ3 (W M x1 y1 u2 v2 w2 : Nat) : Nat := Nat.mod (Nat.mul y1 w2) W
theorem rLQ3 {W M x1' y1' u2' v2' w2' : Nat} {x1 y1 u2 v2 w2 : Int} (hM : M + 1 = W) (rx1 : Rn W x1' x1) (ry1 : Rn W y1' y1) (ru2 : Rn W u2' u2) (rv2 : Rn W v2' v2) (rw2 : Rn W w2' w2) : Rn W (nLQ3 W M x1' y1' u2' v2' w2') (iLQ3 x1 y1 u2 v2 w2) := Rn.mod (Rn.mul ry1 rw2)
theorem sLQ3 {x1 y1 u2 v2 w2 : Int} (sx1 : Sm 3 x1) (sy1 : Sm 3 y1) (su2 : Sm 3 u2) (sv2 : Sm 3 v2) (sw2 : Sm 3 w2) : Sm 12 (iLQ3 x1 y1 u2 v2 w2) := Sm.mono (Sm.mul sy1 sw2) (show 6 ≤ 12 by decide)
noncomputable def kLQ (W M H T p1 q1 c2 b2 r2 m0 m1 m2 m3 u : Nat) : Bool := (fun (f0 f1 f2 f3 : Nat) => (Bool.rec false (sN4 W M H T f3 f2 f1 f0 u (genI [(iLQ3 (1 - (p1 : Int)) (q1 : Int) (2 + (c2 : Int)) ((b2 : Int) - 2) (r2 : Int)),(iLQ2 (1 - (p1 : Int)) (q1 : Int) (2 + (c2 : Int)) ((b2 : Int) - 2) (r2 : Int)),(iLQ1 (1 - (p1 : Int)) (q1 : Int) (2 + (c2 : Int)) ((b2 : Int) - 2) (r2 : Int)),(iLQ0 (1 - (p1 : Int)) (q1 : Int) (2 + (c2 : Int)) ((b2 : Int) - 2) (r2 : Int))] u)) (Nat.beq (rd4 W M H T f0 f1 f2 f3 m0 m1 m2 m3) (nat_lit 0)))) (nLQ0 W M (lx W p1) q1 (Nat.add (nat_lit 2) c2) (qb W b2) r2) (nLQ1 W M (lx W p1) q1 (Nat.add (nat_lit 2) c2) (qb W b2) r2) (nLQ2 W M (lx W p1) q1 (Nat.add (nat_lit 2) c2) (qb W b2) r2) (nLQ3 W M (lx W p1) q1 (Nat.add (nat_lit 2) c2) (qb W b2) r2)
theorem kLQ_spec {W M H p1 q1 c2 b2 r2 m0 m1 m2 m3 u : Nat} (q : Mods W M H) (o1 : (Pt.ln p1 q1).Ok) (o2 : (Pt.qd c2 b2 r2).Ok) (h : kLQ W M H tab p1 q1 c2 b2 r2 m0 m1 m2 m3 u = true) :
    (∀ x ∈ [(iLQ0 (1 - (p1 : Int)) (q1 : Int) (2 + (c2 : Int)) ((b2 : Int) - 2) (r2 : Int)),(iLQ1 (1 - (p1 : Int)) (q1 : Int) (2 + (c2 : Int)) ((b2 : Int) - 2) (r2 : Int)),(iLQ2 (1 - (p1 : Int)) (q1 : Int) (2 + (c2 : Int)) ((b2 : Int) - 2) (r2 : Int)),(iLQ3 (1 - (p1 : Int)) (q1 : Int) (2 + (c2 : Int)) ((b2 : Int) - 2) (r2 : Int))],Sm 12 x) ∧ (iLQ3 (1 - (p1 : Int)) (q1 : Int) (2 + (c2 : Int)) ((b2 : Int) - 2) (r2 : Int)) > 0 ∧ RowsOk (ck [(iLQ0 (1 - (p1 : Int)) (q1 : Int) (2 + (c2 : Int)) ((b2 : Int) - 2) (r2 : Int)),(iLQ1 (1 - (p1 : Int)) (q1 : Int) (2 + (c2 : Int)) ((b2 : Int) - 2) (r2 : Int)),(iLQ2 (1 - (p1 : Int)) (q1 : Int) (2 + (c2 : Int)) ((b2 : Int) - 2) (r2 : Int)),(iLQ3 (1 - (p1 : Int)) (q1 : Int) (2 + (c2 : Int)) ((b2 : Int) - 2) (r2 : Int))]) (ck (leftL [(iLQ0 (1 - (p1 : Int)) (q1 : Int) (2 + (c2 : Int)) ((b2 : Int) - 2) (r2 : Int)),(iLQ1 (1 - (p1 : Int)) (q1 : Int) (2 + (c2 : Int)) ((b2 : Int) - 2) (r2 : Int)),(iLQ2 (1 - (p1 : Int)) (q1 : Int) (2 + (c2 : Int)) ((b2 : Int) - 2) (r2 : Int)),(iLQ3 (1 - (p1 : Int)) (q1 : Int) (2 + (c2 : Int)) ((b2 : Int) - 2) (r2 : Int))])) (ck (shL (leftL [(iLQ0 (1 - (p1 : Int)) (q1 : Int) (2 + (c2 : Int)) ((b2 : Int) - 2) (r2 : Int)),(iLQ1 (1 - (p1 : Int)) (q1 : Int) (2 + (c2 : Int)) ((b2 : Int) - 2) (r2 : Int)),(iLQ2 (1 - (p1 : Int)) (q1 : Int) (2 + (c2 : Int)) ((b2 : Int) - 2) (r2 : Int)),(iLQ3 (1 - (p1 : Int)) (q1 : Int) (2 + (c2 : Int)) ((b2 : Int) - 2) (r2 : Int))]))) m0 m1 m2 m3 ∧ SturmOk [(iLQ3 (1 - (p1 : Int)) (q1 : Int) (2 + (c2 : Int)) ((b2 : Int) - 2) (r2 : Int)),(iLQ2 (1 - (p1 : Int)) (q1 : Int) (2 + (c2 : Int)) ((b2 : Int) - 2) (r2 : Int)),(iLQ1 (1 - (p1 : Int)) (q1 : Int) (2 + (c2 : Int)) ((b2 : Int) - 2) (r2 : Int)),(iLQ0 (1 - (p1 : Int)) (q1 : Int) (2 + (c2 : Int)) ((b2 : Int) - 2) (r2 : Int))] u := by
  have hM := q.m
  have hB := mods_big q
  have rf0 := rLQ0 hM (lx_rn (p := p1) (by have := o1.1; lia)) (Rn.ofNat q1) (two_rn (c := c2)) (qb_rn (b := b2) (by lia)) (Rn.ofNat r2)
  have sf0 := sLQ0 (ln_int o1).1 (ln_int o1).2 (qd_int o2).1 (qd_int o2).2.1 (qd_int o2).2.2
  have rf1 := rLQ1 hM (lx_rn (p := p1) (by have := o1.1; lia)) (Rn.ofNat q1) (two_rn (c := c2)) (qb_rn (b := b2) (by lia)) (Rn.ofNat r2)
  have sf1 := sLQ1 (ln_int o1).1 (ln_int o1).2 (qd_int o2).1 (qd_int o2).2.1 (qd_int o2).2.2
  have rf2 := rLQ2 hM (lx_rn (p := p1) (by have := o1.1; lia)) (Rn.ofNat q1) (two_rn (c := c2)) (qb_rn (b := b2) (by lia)) (Rn.ofNat r2)
  have sf2 := sLQ2 (ln_int o1).1 (ln_int o1).2 (qd_int o2).1 (qd_int o2).2.1 (qd_int o2).2.2
  have rf3 := rLQ3 hM (lx_rn (p := p1) (by have := o1.1; lia)) (Rn.ofNat q1) (two_rn (c := c2)) (qb_rn (b := b2) (by lia)) (Rn.ofNat r2)
  have sf3 := sLQ3 (ln_int o1).1 (ln_int o1).2 (qd_int o2).1 (qd_int o2).2.1 (qd_int o2).2.2
  have hpos : (iLQ3 (1 - (p1 : Int)) (q1 : Int) (2 + (c2 : Int)) ((b2 : Int) - 2) (r2 : Int)) > 0 := (Int.mul_pos (show (q1 : Int) > 0 by have := o1.2.1; lia) (show (r2 : Int) > 0 by have := o2.2.2.1; lia))
  have hS12 : ∀ x ∈ [(iLQ0 (1 - (p1 : Int)) (q1 : Int) (2 + (c2 : Int)) ((b2 : Int) - 2) (r2 : Int)),(iLQ1 (1 - (p1 : Int)) (q1 : Int) (2 + (c2 : Int)) ((b2 : Int) - 2) (r2 : Int)),(iLQ2 (1 - (p1 : Int)) (q1 : Int) (2 + (c2 : Int)) ((b2 : Int) - 2) (r2 : Int)),(iLQ3 (1 - (p1 : Int)) (q1 : Int) (2 + (c2 : Int)) ((b2 : Int) - 2) (r2 : Int))],Sm 12 x := fun x hx => by
    simp only [List.mem_cons,List.not_mem_nil,or_false] at hx
    rcases hx with rfl | rfl | rfl | rfl
    · exact sf0
    · exact sf1
    · exact sf2
    · exact sf3
  have hG : Gd 100 20 [(iLQ3 (1 - (p1 : Int)) (q1 : Int) (2 + (c2 : Int)) ((b2 : Int) - 2) (r2 : Int)),(iLQ2 (1 - (p1 : Int)) (q1 : Int) (2 + (c2 : Int)) ((b2 : Int) - 2) (r2 : Int)),(iLQ1 (1 - (p1 : Int)) (q1 : Int) (2 + (c2 : Int)) ((b2 : Int) - 2) (r2 : Int)),(iLQ0 (1 - (p1 : Int)) (q1 : Int) (2 + (c2 : Int)) ((b2 : Int) - 2) (r2 : Int))] := ⟨by simp,fun x hx => by
    simp only [List.mem_cons,List.not_mem_nil,or_false] at hx
    rcases hx with rfl | rfl | rfl | rfl
    · exact sf3.mono (by decide)
    · exact sf2.mono (by decide)
    · exact sf1.mono (by decide)
    · exact sf0.mono (by decide)⟩
  unfold kLQ at h
  dsimp only at h
  obtain ⟨h1,h2⟩ := rec_and h
  have h1 := Nat.eq_of_beq_eq_true h1
  refine ⟨hS12,hpos,rd4_spec q rf0 (sm12 sf0) rf1 (sm12 sf1) rf2 (sm12 sf2) rf3 (sm12 sf3) h1,?_⟩
  rcases sN4_spec q rf3 rf2 rf1 rf0 hG hpos h2 with h3 | h3
  · exact h3.ok
  · exact genI_spec h3
noncomputable def gLQ (W M H T p1 q1 c2 b2 r2 : Nat) : Bool := kLQ W M H T p1 q1 c2 b2 r2 (c0N p1 q1) (c1N p1 q1) (c2N p1 q1) (c3N p1 q1) (un1 (kyN p1 q1))
theorem gLQ_spec {W M H p1 q1 c2 b2 r2 : Nat} (q : Mods W M H) (o1 : (Pt.ln p1 q1).Ok) (o2 : (Pt.qd c2 b2 r2).Ok) (h : gLQ W M H tab p1 q1 c2 b2 r2 = true) : LawT [Pt.ln p1 q1,Pt.qd c2 b2 r2] ∧ LawT [Pt.qd c2 b2 r2,Pt.ln p1 q1] := by
  obtain ⟨h1,h2,h3,h4⟩ := kLQ_spec q o1 o2 h
  refine ⟨?_,?_⟩
  · refine lawT_4 (?_ : ∀ x ∈ _,Pt.Ok x) (by simp) h1 h2 ?_ (cnts1 o1) h3 h4
    · intro x hx
      simp only [List.mem_cons,List.not_mem_nil,or_false] at hx
      rcases hx with rfl | rfl
      · exact o1
      · exact o2
    · show mulL (mulL [1] [(1 - (p1 : Int)),(q1 : Int)]) [(2 + (c2 : Int)),((b2 : Int) - 2),(r2 : Int)] = _
      rw [mul_1_2,mul_2_3]
      simp only [List.cons.injEq,and_true,iLQ0,iLQ1,iLQ2,iLQ3] <;> and_intros <;> grind
  · refine lawT_4 (?_ : ∀ x ∈ _,Pt.Ok x) (by simp) h1 h2 ?_ (cnts1 o1) h3 h4
    · intro x hx
      simp only [List.mem_cons,List.not_mem_nil,or_false] at hx
      rcases hx with rfl | rfl
      · exact o2
      · exact o1
    · show mulL (mulL [1] [(2 + (c2 : Int)),((b2 : Int) - 2),(r2 : Int)]) [(1 - (p1 : Int)),(q1 : Int)] = _
      rw [mul_1_3,mul_3_2]
      simp only [List.cons.injEq,and_true,iLQ0,iLQ1,iLQ2,iLQ3] <;> and_intros <;> grind
noncomputable def iQQ0 (u1 v1 w1 u2 v2 w2 : Int) : Int := (u1 * u2)
noncomputable def nQQ0 (W M u1 v1 w1 u2 v2 w2 : Nat) : Nat := Nat.mod (Nat.mul u1 u2) W
theorem rQQ0 {W M u1' v1' w1' u2' v2' w2' : Nat} {u1 v1 w1 u2 v2 w2 : Int} (hM : M + 1 = W) (ru1 : Rn W u1' u1) (rv1 : Rn W v1' v1) (rw1 : Rn W w1' w1) (ru2 : Rn W u2' u2) (rv2 : Rn W v2' v2) (rw2 : Rn W w2' w2) : Rn W (nQQ0 W M u1' v1' w1' u2' v2' w2') (iQQ0 u1 v1 w1 u2 v2 w2) := Rn.mod (Rn.mul ru1 ru2)
theorem sQQ0 {u1 v1 w1 u2 v2 w2 : Int} (su1 : Sm 3 u1) (sv1 : Sm 3 v1) (sw1 : Sm 3 w1) (su2 : Sm 3 u2) (sv2 : Sm 3 v2) (sw2 : Sm 3 w2) : Sm 12 (iQQ0 u1 v1 w1 u2 v2 w2) := Sm.mono (Sm.mul su1 su2) (show 6 ≤ 12 by decide)
noncomputable def iQQ1 (u1 v1 w1 u2 v2 w2 : Int) : Int := ((u1 * v2) + (v1 * u2))
noncomputable def nQQ1 (W M u1 v1 w1 u2 v2 w2 : Nat) : Nat := Nat.mod (Nat.add (Nat.mul u1 v2) (Nat.mul v1 u2)) W
theorem rQQ1 {W M u1' v1' w1' u2' v2' w2' : Nat} {u1 v1 w1 u2 v2 w2 : Int} (hM : M + 1 = W) (ru1 : Rn W u1' u1) (rv1 : Rn W v1' v1) (rw1 : Rn W w1' w1) (ru2 : Rn W u2' u2) (rv2 : Rn W v2' v2) (rw2 : Rn W w2' w2) : Rn W (nQQ1 W M u1' v1' w1' u2' v2' w2') (iQQ1 u1 v1 w1 u2 v2 w2) := Rn.mod (Rn.add (Rn.mul ru1 rv2) (Rn.mul rv1 ru2))
theorem sQQ1 {u1 v1 w1 u2 v2 w2 : Int} (su1 : Sm 3 u1) (sv1 : Sm 3 v1) (sw1 : Sm 3 w1) (su2 : Sm 3 u2) (sv2 : Sm 3 v2) (sw2 : Sm 3 w2) : Sm 12 (iQQ1 u1 v1 w1 u2 v2 w2) := Sm.mono (sm_add (Sm.mul su1 sv2) (Sm.mul sv1 su2)) (show 7 ≤ 12 by decide)
noncomputable def iQQ2 (u1 v1 w1 u2 v2 w2 : Int) : Int := (((u1 * w2) + (v1 * v2)) + (w1 * u2))
noncomputable def nQQ2 (W M u1 v1 w1 u2 v2 w2 : Nat) : Nat := Nat.mod (Nat.add (Nat.add (Nat.mul u1 w2) (Nat.mul v1 v2)) (Nat.mul w1 u2)) W
theorem rQQ2 {W M u1' v1' w1' u2' v2' w2' : Nat} {u1 v1 w1 u2 v2 w2 : Int} (hM : M + 1 = W) (ru1 : Rn W u1' u1) (rv1 : Rn W v1' v1) (rw1 : Rn W w1' w1) (ru2 : Rn W u2' u2) (rv2 : Rn W v2' v2) (rw2 : Rn W w2' w2) : Rn W (nQQ2 W M u1' v1' w1' u2' v2' w2') (iQQ2 u1 v1 w1 u2 v2 w2) := Rn.mod (Rn.add (Rn.add (Rn.mul ru1 rw2) (Rn.mul rv1 rv2)) (Rn.mul rw1 ru2))
theorem sQQ2 {u1 v1 w1 u2 v2 w2 : Int} (su1 : Sm 3 u1) (sv1 : Sm 3 v1) (sw1 : Sm 3 w1) (su2 : Sm 3 u2) (sv2 : Sm 3 v2) (sw2 : Sm 3 w2) : Sm 12 (iQQ2 u1 v1 w1 u2 v2 w2) := Sm.mono (sm_add (sm_add (Sm.mul su1 sw2) (Sm.mul sv1 sv2)) (Sm.mul sw1 su2)) (show 8 ≤ 12 by decide)
noncomputable def iQQ3 (u1 v1 w1 u2 v2 w2 : Int) : Int := ((v1 * w2) + (w1 * v2))
noncomputable def nQQ3 (W M u1 v1 w1 u2 v2 w2 : Nat) : Nat := Nat.mod (Nat.add (Nat.mul v1 w2) (Nat.mul w1 v2)) W
theorem rQQ3 {W M u1' v1' w1' u2' v2' w2' : Nat} {u1 v1 w1 u2 v2 w2 : Int} (hM : M + 1 = W) (ru1 : Rn W u1' u1) (rv1 : Rn W v1' v1) (rw1 : Rn W w1' w1) (ru2 : Rn W u2' u2) (rv2 : Rn W v2' v2) (rw2 : Rn W w2' w2) : Rn W (nQQ3 W M u1' v1' w1' u2' v2' w2') (iQQ3 u1 v1 w1 u2 v2 w2) := Rn.mod (Rn.add (Rn.mul rv1 rw2) (Rn.mul rw1 rv2))
theorem sQQ3 {u1 v1 w1 u2 v2 w2 : Int} (su1 : Sm 3 u1) (sv1 : Sm 3 v1) (sw1 : Sm 3 w1) (su2 : Sm 3 u2) (sv2 : Sm 3 v2) (sw2 : Sm 3 w2) : Sm 12 (iQQ3 u1 v1 w1 u2 v2 w2) := Sm.mono (sm_add (Sm.mul sv1 sw2) (Sm.mul sw1 sv2)) (show 7 ≤ 12 by decide)
noncomputable def iQQ4 (u1 v1 w1 u2 v2 w2 : Int) : Int := (w1 * w2)
noncomputable def nQQ4 (W M u1 v1 w1 u2 v2 w2 : Nat) : Nat := Nat.mod (Nat.mul w1 w2) W
theorem rQQ4 {W M u1' v1' w1' u2' v2' w2' : Nat} {u1 v1 w1 u2 v2 w2 : Int} (hM : M + 1 = W) (ru1 : Rn W u1' u1) (rv1 : Rn W v1' v1) (rw1 : Rn W w1' w1) (ru2 : Rn W u2' u2) (rv2 : Rn W v2' v2) (rw2 : Rn W w2' w2) : Rn W (nQQ4 W M u1' v1' w1' u2' v2' w2') (iQQ4 u1 v1 w1 u2 v2 w2) := Rn.mod (Rn.mul rw1 rw2)
theorem sQQ4 {u1 v1 w1 u2 v2 w2 : Int} (su1 : Sm 3 u1) (sv1 : Sm 3 v1) (sw1 : Sm 3 w1) (su2 : Sm 3 u2) (sv2 : Sm 3 v2) (sw2 : Sm 3 w2) : Sm 12 (iQQ4 u1 v1 w1 u2 v2 w2) := Sm.mono (Sm.mul sw1 sw2) (show 6 ≤ 12 by decide)
noncomputable def kQQ (W M H T c1 b1 r1 c2 b2 r2 m0 m1 m2 m3 u : Nat) : Bool := (fun (f0 f1 f2 f3 f4 : Nat) => (Bool.rec false (sN5 W M H T f4 f3 f2 f1 f0 u (genI [(iQQ4 (2 + (c1 : Int)) ((b1 : Int) - 2) (r1 : Int) (2 + (c2 : Int)) ((b2 : Int) - 2) (r2 : Int)),(iQQ3 (2 + (c1 : Int)) ((b1 : Int) - 2) (r1 : Int) (2 + (c2 : Int)) ((b2 : Int) - 2) (r2 : Int)),(iQQ2 (2 + (c1 : Int)) ((b1 : Int) - 2) (r1 : Int) (2 + (c2 : Int)) ((b2 : Int) - 2) (r2 : Int)),(iQQ1 (2 + (c1 : Int)) ((b1 : Int) - 2) (r1 : Int) (2 + (c2 : Int)) ((b2 : Int) - 2) (r2 : Int)),(iQQ0 (2 + (c1 : Int)) ((b1 : Int) - 2) (r1 : Int) (2 + (c2 : Int)) ((b2 : Int) - 2) (r2 : Int))] u)) (Nat.beq (rd5 W M H T f0 f1 f2 f3 f4 m0 m1 m2 m3) (nat_lit 0)))) (nQQ0 W M (Nat.add (nat_lit 2) c1) (qb W b1) r1 (Nat.add (nat_lit 2) c2) (qb W b2) r2) (nQQ1 W M (Nat.add (nat_lit 2) c1) (qb W b1) r1 (Nat.add (nat_lit 2) c2) (qb W b2) r2) (nQQ2 W M (Nat.add (nat_lit 2) c1) (qb W b1) r1 (Nat.add (nat_lit 2) c2) (qb W b2) r2) (nQQ3 W M (Nat.add (nat_lit 2) c1) (qb W b1) r1 (Nat.add (nat_lit 2) c2) (qb W b2) r2) (nQQ4 W M (Nat.add (nat_lit 2) c1) (qb W b1) r1 (Nat.add (nat_lit 2) c2) (qb W b2) r2)
theorem kQQ_spec {W M H c1 b1 r1 c2 b2 r2 m0 m1 m2 m3 u : Nat} (q : Mods W M H) (o1 : (Pt.qd c1 b1 r1).Ok) (o2 : (Pt.qd c2 b2 r2).Ok) (h : kQQ W M H tab c1 b1 r1 c2 b2 r2 m0 m1 m2 m3 u = true) :
    (∀ x ∈ [(iQQ0 (2 + (c1 : Int)) ((b1 : Int) - 2) (r1 : Int) (2 + (c2 : Int)) ((b2 : Int) - 2) (r2 : Int)),(iQQ1 (2 + (c1 : Int)) ((b1 : Int) - 2) (r1 : Int) (2 + (c2 : Int)) ((b2 : Int) - 2) (r2 : Int)),(iQQ2 (2 + (c1 : Int)) ((b1 : Int) - 2) (r1 : Int) (2 + (c2 : Int)) ((b2 : Int) - 2) (r2 : Int)),(iQQ3 (2 + (c1 : Int)) ((b1 : Int) - 2) (r1 : Int) (2 + (c2 : Int)) ((b2 : Int) - 2) (r2 : Int)),(iQQ4 (2 + (c1 : Int)) ((b1 : Int) - 2) (r1 : Int) (2 + (c2 : Int)) ((b2 : Int) - 2) (r2 : Int))],Sm 12 x) ∧ (iQQ4 (2 + (c1 : Int)) ((b1 : Int) - 2) (r1 : Int) (2 + (c2 : Int)) ((b2 : Int) - 2) (r2 : Int)) > 0 ∧ RowsOk (ck [(iQQ0 (2 + (c1 : Int)) ((b1 : Int) - 2) (r1 : Int) (2 + (c2 : Int)) ((b2 : Int) - 2) (r2 : Int)),(iQQ1 (2 + (c1 : Int)) ((b1 : Int) - 2) (r1 : Int) (2 + (c2 : Int)) ((b2 : Int) - 2) (r2 : Int)),(iQQ2 (2 + (c1 : Int)) ((b1 : Int) - 2) (r1 : Int) (2 + (c2 : Int)) ((b2 : Int) - 2) (r2 : Int)),(iQQ3 (2 + (c1 : Int)) ((b1 : Int) - 2) (r1 : Int) (2 + (c2 : Int)) ((b2 : Int) - 2) (r2 : Int)),(iQQ4 (2 + (c1 : Int)) ((b1 : Int) - 2) (r1 : Int) (2 + (c2 : Int)) ((b2 : Int) - 2) (r2 : Int))]) (ck (leftL [(iQQ0 (2 + (c1 : Int)) ((b1 : Int) - 2) (r1 : Int) (2 + (c2 : Int)) ((b2 : Int) - 2) (r2 : Int)),(iQQ1 (2 + (c1 : Int)) ((b1 : Int) - 2) (r1 : Int) (2 + (c2 : Int)) ((b2 : Int) - 2) (r2 : Int)),(iQQ2 (2 + (c1 : Int)) ((b1 : Int) - 2) (r1 : Int) (2 + (c2 : Int)) ((b2 : Int) - 2) (r2 : Int)),(iQQ3 (2 + (c1 : Int)) ((b1 : Int) - 2) (r1 : Int) (2 + (c2 : Int)) ((b2 : Int) - 2) (r2 : Int)),(iQQ4 (2 + (c1 : Int)) ((b1 : Int) - 2) (r1 : Int) (2 + (c2 : Int)) ((b2 : Int) - 2) (r2 : Int))])) (ck (shL (leftL [(iQQ0 (2 + (c1 : Int)) ((b1 : Int) - 2) (r1 : Int) (2 + (c2 : Int)) ((b2 : Int) - 2) (r2 : Int)),(iQQ1 (2 + (c1 : Int)) ((b1 : Int) - 2) (r1 : Int) (2 + (c2 : Int)) ((b2 : Int) - 2) (r2 : Int)),(iQQ2 (2 + (c1 : Int)) ((b1 : Int) - 2) (r1 : Int) (2 + (c2 : Int)) ((b2 : Int) - 2) (r2 : Int)),(iQQ3 (2 + (c1 : Int)) ((b1 : Int) - 2) (r1 : Int) (2 + (c2 : Int)) ((b2 : Int) - 2) (r2 : Int)),(iQQ4 (2 + (c1 : Int)) ((b1 : Int) - 2) (r1 : Int) (2 + (c2 : Int)) ((b2 : Int) - 2) (r2 : Int))]))) m0 m1 m2 m3 ∧ SturmOk [(iQQ4 (2 + (c1 : Int)) ((b1 : Int) - 2) (r1 : Int) (2 + (c2 : Int)) ((b2 : Int) - 2) (r2 : Int)),(iQQ3 (2 + (c1 : Int)) ((b1 : Int) - 2) (r1 : Int) (2 + (c2 : Int)) ((b2 : Int) - 2) (r2 : Int)),(iQQ2 (2 + (c1 : Int)) ((b1 : Int) - 2) (r1 : Int) (2 + (c2 : Int)) ((b2 : Int) - 2) (r2 : Int)),(iQQ1 (2 + (c1 : Int)) ((b1 : Int) - 2) (r1 : Int) (2 + (c2 : Int)) ((b2 : Int) - 2) (r2 : Int)),(iQQ0 (2 + (c1 : Int)) ((b1 : Int) - 2) (r1 : Int) (2 + (c2 : Int)) ((b2 : Int) - 2) (r2 : Int))] u := by
  have hM := q.m
  have hB := mods_big q
  have rf0 := rQQ0 hM (two_rn (c := c1)) (qb_rn (b := b1) (by lia)) (Rn.ofNat r1) (two_rn (c := c2)) (qb_rn (b := b2) (by lia)) (Rn.ofNat r2)
  have sf0 := sQQ0 (qd_int o1).1 (qd_int o1).2.1 (qd_int o1).2.2 (qd_int o2).1 (qd_int o2).2.1 (qd_int o2).2.2
  have rf1 := rQQ1 hM (two_rn (c := c1)) (qb_rn (b := b1) (by lia)) (Rn.ofNat r1) (two_rn (c := c2)) (qb_rn (b := b2) (by lia)) (Rn.ofNat r2)
  have sf1 := sQQ1 (qd_int o1).1 (qd_int o1).2.1 (qd_int o1).2.2 (qd_int o2).1 (qd_int o2).2.1 (qd_int o2).2.2
  have rf2 := rQQ2 hM (two_rn (c := c1)) (qb_rn (b := b1) (by lia)) (Rn.ofNat r1) (two_rn (c := c2)) (qb_rn (b := b2) (by lia)) (Rn.ofNat r2)
  have sf2 := sQQ2 (qd_int o1).1 (qd_int o1).2.1 (qd_int o1).2.2 (qd_int o2).1 (qd_int o2).2.1 (qd_int o2).2.2
  have rf3 := rQQ3 hM (two_rn (c := c1)) (qb_rn (b := b1) (by lia)) (Rn.ofNat r1) (two_rn (c := c2)) (qb_rn (b := b2) (by lia)) (Rn.ofNat r2)
  have sf3 := sQQ3 (qd_int o1).1 (qd_int o1).2.1 (qd_int o1).2.2 (qd_int o2).1 (qd_int o2).2.1 (qd_int o2).2.2
  have rf4 := rQQ4 hM (two_rn (c := c1)) (qb_rn (b := b1) (by lia)) (Rn.ofNat r1) (two_rn (c := c2)) (qb_rn (b := b2) (by lia)) (Rn.ofNat r2)
  have sf4 := sQQ4 (qd_int o1).1 (qd_int o1).2.1 (qd_int o1).2.2 (qd_int o2).1 (qd_int o2).2.1 (qd_int o2).2.2
  have hpos : (iQQ4 (2 + (c1 : Int)) ((b1 : Int) - 2) (r1 : Int) (2 + (c2 : Int)) ((b2 : Int) - 2) (r2 : Int)) > 0 := (Int.mul_pos (show (r1 : Int) > 0 by have := o1.2.2.1; lia) (show (r2 : Int) > 0 by have := o2.2.2.1; lia))
  have hS12 : ∀ x ∈ [(iQQ0 (2 + (c1 : Int)) ((b1 : Int) - 2) (r1 : Int) (2 + (c2 : Int)) ((b2 : Int) - 2) (r2 : Int)),(iQQ1 (2 + (c1 : Int)) ((b1 : Int) - 2) (r1 : Int) (2 + (c2 : Int)) ((b2 : Int) - 2) (r2 : Int)),(iQQ2 (2 + (c1 : Int)) ((b1 : Int) - 2) (r1 : Int) (2 + (c2 : Int)) ((b2 : Int) - 2) (r2 : Int)),(iQQ3 (2 + (c1 : Int)) ((b1 : Int) - 2) (r1 : Int) (2 + (c2 : Int)) ((b2 : Int) - 2) (r2 : Int)),(iQQ4 (2 + (c1 : Int)) ((b1 : Int) - 2) (r1 : Int) (2 + (c2 : Int)) ((b2 : Int) - 2) (r2 : Int))],Sm 12 x := fun x hx => by
    simp only [List.mem_cons,List.not_mem_nil,or_false] at hx
    rcases hx with rfl | rfl | rfl | rfl | rfl
    · exact sf0
    · exact sf1
    · exact sf2
    · exact sf3
    · exact sf4
  have hG : Gd 100 20 [(iQQ4 (2 + (c1 : Int)) ((b1 : Int) - 2) (r1 : Int) (2 + (c2 : Int)) ((b2 : Int) - 2) (r2 : Int)),(iQQ3 (2 + (c1 : Int)) ((b1 : Int) - 2) (r1 : Int) (2 + (c2 : Int)) ((b2 : Int) - 2) (r2 : Int)),(iQQ2 (2 + (c1 : Int)) ((b1 : Int) - 2) (r1 : Int) (2 + (c2 : Int)) ((b2 : Int) - 2) (r2 : Int)),(iQQ1 (2 + (c1 : Int)) ((b1 : Int) - 2) (r1 : Int) (2 + (c2 : Int)) ((b2 : Int) - 2) (r2 : Int)),(iQQ0 (2 + (c1 : Int)) ((b1 : Int) - 2) (r1 : Int) (2 + (c2 : Int)) ((b2 : Int) - 2) (r2 : Int))] := ⟨by simp,fun x hx => by
    simp only [List.mem_cons,List.not_mem_nil,or_false] at hx
    rcases hx with rfl | rfl | rfl | rfl | rfl
    · exact sf4.mono (by decide)
    · exact sf3.mono (by decide)
    · exact sf2.mono (by decide)
    · exact sf1.mono (by decide)
    · exact sf0.mono (by decide)⟩
  unfold kQQ at h
  dsimp only at h
  obtain ⟨h1,h2⟩ := rec_and h
  have h1 := Nat.eq_of_beq_eq_true h1
  refine ⟨hS12,hpos,rd5_spec q rf0 (sm12 sf0) rf1 (sm12 sf1) rf2 (sm12 sf2) rf3 (sm12 sf3) rf4 (sm12 sf4) h1,?_⟩
  rcases sN5_spec q rf4 rf3 rf2 rf1 rf0 hG hpos h2 with h3 | h3
  · exact h3.ok
  · exact genI_spec h3
noncomputable def gQQ (W M H T c1 b1 r1 c2 b2 r2 : Nat) : Bool := kQQ W M H T c1 b1 r1 c2 b2 r2 (nat_lit 0) (nat_lit 0) (nat_lit 0) (nat_lit 0) (nat_lit 0)
theorem gQQ_spec {W M H c1 b1 r1 c2 b2 r2 : Nat} (q : Mods W M H) (o1 : (Pt.qd c1 b1 r1).Ok) (o2 : (Pt.qd c2 b2 r2).Ok) (h : gQQ W M H tab c1 b1 r1 c2 b2 r2 = true) : LawT [Pt.qd c1 b1 r1,Pt.qd c2 b2 r2] ∧ LawT [Pt.qd c2 b2 r2,Pt.qd c1 b1 r1] := by
  obtain ⟨h1,h2,h3,h4⟩ := kQQ_spec q o1 o2 h
  refine ⟨?_,?_⟩
  · refine lawT_5 (?_ : ∀ x ∈ _,Pt.Ok x) (by simp) h1 h2 ?_ (cnts0) h3 h4
    · intro x hx
      simp only [List.mem_cons,List.not_mem_nil,or_false] at hx
      rcases hx with rfl | rfl
      · exact o1
      · exact o2
    · show mulL (mulL [1] [(2 + (c1 : Int)),((b1 : Int) - 2),(r1 : Int)]) [(2 + (c2 : Int)),((b2 : Int) - 2),(r2 : Int)] = _
      rw [mul_1_3,mul_3_3]
      simp only [List.cons.injEq,and_true,iQQ0,iQQ1,iQQ2,iQQ3,iQQ4] <;> and_intros <;> grind
  · refine lawT_5 (?_ : ∀ x ∈ _,Pt.Ok x) (by simp) h1 h2 ?_ (cnts0) h3 h4
    · intro x hx
      simp only [List.mem_cons,List.not_mem_nil,or_false] at hx
      rcases hx with rfl | rfl
      · exact o2
      · exact o1
    · show mulL (mulL [1] [(2 + (c2 : Int)),((b2 : Int) - 2),(r2 : Int)]) [(2 + (c1 : Int)),((b1 : Int) - 2),(r1 : Int)] = _
      rw [mul_1_3,mul_3_3]
      simp only [List.cons.injEq,and_true,iQQ0,iQQ1,iQQ2,iQQ3,iQQ4] <;> and_intros <;> grind
noncomputable def iLLL0 (x1 y1 x2 y2 x3 y3 : Int) : Int := ((x1 * x2) * x3)
noncomputable def nLLL0 (W M x1 y1 x2 y2 x3 y3 : Nat) : Nat := Nat.mod (Nat.mul (Nat.mul x1 x2) x3) W
theorem rLLL0 {W M x1' y1' x2' y2' x3' y3' : Nat} {x1 y1 x2 y2 x3 y3 : Int} (hM : M + 1 = W) (rx1 : Rn W x1' x1) (ry1 : Rn W y1' y1) (rx2 : Rn W x2' x2) (ry2 : Rn W y2' y2) (rx3 : Rn W x3' x3) (ry3 : Rn W y3' y3) : Rn W (nLLL0 W M x1' y1' x2' y2' x3' y3') (iLLL0 x1 y1 x2 y2 x3 y3) := Rn.mod (Rn.mul (Rn.mul rx1 rx2) rx3)
theorem sLLL0 {x1 y1 x2 y2 x3 y3 : Int} (sx1 : Sm 3 x1) (sy1 : Sm 3 y1) (sx2 : Sm 3 x2) (sy2 : Sm 3 y2) (sx3 : Sm 3 x3) (sy3 : Sm 3 y3) : Sm 12 (iLLL0 x1 y1 x2 y2 x3 y3) := Sm.mono (Sm.mul (Sm.mul sx1 sx2) sx3) (show 9 ≤ 12 by decide)
noncomputable def iLLL1 (x1 y1 x2 y2 x3 y3 : Int) : Int := (((x1 * x2) * y3) + (((x1 * y2) + (y1 * x2)) * x3))
noncomputable def nLLL1 (W M x1 y1 x2 y2 x3 y3 : Nat) : Nat := Nat.mod (Nat.add (Nat.mul (Nat.mul x1 x2) y3) (Nat.mul (Nat.add (Nat.mul x1 y2) (Nat.mul y1 x2)) x3)) W
theorem rLLL1 {W M x1' y1' x2' y2' x3' y3' : Nat} {x1 y1 x2 y2 x3 y3 : Int} (hM : M + 1 = W) (rx1 : Rn W x1' x1) (ry1 : Rn W y1' y1) (rx2 : Rn W x2' x2) (ry2 : Rn W y2' y2) (rx3 : Rn W x3' x3) (ry3 : Rn W y3' y3) : Rn W (nLLL1 W M x1' y1' x2' y2' x3' y3') (iLLL1 x1 y1 x2 y2 x3 y3) := Rn.mod (Rn.add (Rn.mul (Rn.mul rx1 rx2) ry3) (Rn.mul (Rn.add (Rn.mul rx1 ry2) (Rn.mul ry1 rx2)) rx3))
theorem sLLL1 {x1 y1 x2 y2 x3 y3 : Int} (sx1 : Sm 3 x1) (sy1 : Sm 3 y1) (sx2 : Sm 3 x2) (sy2 : Sm 3 y2) (sx3 : Sm 3 x3) (sy3 : Sm 3 y3) : Sm 12 (iLLL1 x1 y1 x2 y2 x3 y3) := Sm.mono (sm_add (Sm.mul (Sm.mul sx1 sx2) sy3) (Sm.mul (sm_add (Sm.mul sx1 sy2) (Sm.mul sy1 sx2)) sx3)) (show 11 ≤ 12 by decide)
noncomputable def iLLL2 (x1 y1 x2 y2 x3 y3 : Int) : Int := ((((x1 * y2) + (y1 * x2)) * y3) + ((y1 * y2) * x3))
noncomputable def nLLL2 (W M x1 y1 x2 y2 x3 y3 : Nat) : Nat := Nat.mod (Nat.add (Nat.mul (Nat.add (Nat.mul x1 y2) (Nat.mul y1 x2)) y3) (Nat.mul (Nat.mul y1 y2) x3)) W
theorem rLLL2 {W M x1' y1' x2' y2' x3' y3' : Nat} {x1 y1 x2 y2 x3 y3 : Int} (hM : M + 1 = W) (rx1 : Rn W x1' x1) (ry1 : Rn W y1' y1) (rx2 : Rn W x2' x2) (ry2 : Rn W y2' y2) (rx3 : Rn W x3' x3) (ry3 : Rn W y3' y3) : Rn W (nLLL2 W M x1' y1' x2' y2' x3' y3') (iLLL2 x1 y1 x2 y2 x3 y3) := Rn.mod (Rn.add (Rn.mul (Rn.add (Rn.mul rx1 ry2) (Rn.mul ry1 rx2)) ry3) (Rn.mul (Rn.mul ry1 ry2) rx3))
theorem sLLL2 {x1 y1 x2 y2 x3 y3 : Int} (sx1 : Sm 3 x1) (sy1 : Sm 3 y1) (sx2 : Sm 3 x2) (sy2 : Sm 3 y2) (sx3 : Sm 3 x3) (sy3 : Sm 3 y3) : Sm 12 (iLLL2 x1 y1 x2 y2 x3 y3) := Sm.mono (sm_add (Sm.mul (sm_add (Sm.mul sx1 sy2) (Sm.mul sy1 sx2)) sy3) (Sm.mul (Sm.mul sy1 sy2) sx3)) (show 11 ≤ 12 by decide)
noncomputable def iLLL3 (x1 y1 x2 y2 x3 y3 : Int) : Int := ((y1 * y2) * y3)
noncomputable def nLLL3 (W M x1 y1 x2 y2 x3 y3 : Nat) : Nat := Nat.mod (Nat.mul (Nat.mul y1 y2) y3) W
theorem rLLL3 {W M x1' y1' x2' y2' x3' y3' : Nat} {x1 y1 x2 y2 x3 y3 : Int} (hM : M + 1 = W) (rx1 : Rn W x1' x1) (ry1 : Rn W y1' y1) (rx2 : Rn W x2' x2) (ry2 : Rn W y2' y2) (rx3 : Rn W x3' x3) (ry3 : Rn W y3' y3) : Rn W (nLLL3 W M x1' y1' x2' y2' x3' y3') (iLLL3 x1 y1 x2 y2 x3 y3) := Rn.mod (Rn.mul (Rn.mul ry1 ry2) ry3)
theorem sLLL3 {x1 y1 x2 y2 x3 y3 : Int} (sx1 : Sm 3 x1) (sy1 : Sm 3 y1) (sx2 : Sm 3 x2) (sy2 : Sm 3 y2) (sx3 : Sm 3 x3) (sy3 : Sm 3 y3) : Sm 12 (iLLL3 x1 y1 x2 y2 x3 y3) := Sm.mono (Sm.mul (Sm.mul sy1 sy2) sy3) (show 9 ≤ 12 by decide)
theorem dLLL_spec {W M H p1 q1 p2 q2 p3 q3 u f0 f1 f2 f3 : Nat} {a b c d : Int} (q : Mods W M H) (o1 : (Pt.ln p1 q1).Ok) (o2 : (Pt.ln p2 q2).Ok) (o3 : (Pt.ln p3 q3).Ok) (rf0 : Rn W f0 a) (rf1 : Rn W f1 b) (rf2 : Rn W f2 c) (rf3 : Rn W f3 d) (hG : Gd 100 20 [d,c,b,a]) (hpos : d > 0)
    (ea : a = iLLL0 (1 - (p1 : Int)) q1 (1 - (p2 : Int)) q2 (1 - (p3 : Int)) q3) (eb : b = iLLL1 (1 - (p1 : Int)) q1 (1 - (p2 : Int)) q2 (1 - (p3 : Int)) q3) (ec : c = iLLL2 (1 - (p1 : Int)) q1 (1 - (p2 : Int)) q2 (1 - (p3 : Int)) q3) (ed : d = iLLL3 (1 - (p1 : Int)) q1 (1 - (p2 : Int)) q2 (1 - (p3 : Int)) q3)
    (h3 : (Bool.rec false (dN4 W M H tab f3 f2 f1 f0 (lv p1 q1) (lw W p1 q1) (nGL2 W M (lw W p1 q1) (lv p1 q1) (lw W p3 q3) (lv p3 q3)) (nGL1 W M (lw W p1 q1) (lv p1 q1) (lw W p3 q3) (lv p3 q3)) (nGL0 W M (lw W p1 q1) (lv p1 q1) (lw W p3 q3) (lv p3 q3)) (Nat.mul (Nat.mul (lk p1 q1) (lk p2 q2)) (lk p3 q3)) u) (pB W p1 q1 p2 q2)) = true) : SturmOk [d,c,b,a] u := by
  have hM := q.m
  have hB := mods_big q
  obtain ⟨hp,hd⟩ := rec_and h3
  obtain ⟨ev,ew⟩ := pB_spec hB o1 o2 hp
  obtain ⟨⟨A1,A2,A3,A4,A5,A6,A7,A8⟩,_⟩ := line_all o1
  obtain ⟨⟨B1,B2,B3,B4,B5,B6,B7,B8⟩,_⟩ := line_all o2
  rw [← ew] at B2
  rw [← ev] at B1
  obtain ⟨⟨D1,D2,D3,D4,D5,D6,D7,D8⟩,_⟩ := line_all o3
  have rw1 := lw_rn (W := W) (p := p1) (q := q1) (by have := o1.1; lia)
  have rv1 := Rn.ofNat (W := W) (lv p1 q1)
  have sw1 : Sm 3 (iw p1 q1) := sm3 (by lia)
  have sv1 : Sm 3 (lv p1 q1 : Int) := sm3 (by lia)
  have t0 := lw_rn (W := W) (p := p3) (q := q3) (by have := o3.1; lia)
  have t1 := Rn.ofNat (W := W) (lv p3 q3)
  have e0 : Sm 3 (iw p3 q3) := sm3 (by lia)
  have e1 : Sm 3 (lv p3 q3 : Int) := sm3 (by lia)
  have g : ∀ x ∈ [iGL2 (iw p1 q1) (lv p1 q1 : Int) (iw p3 q3) (lv p3 q3 : Int),iGL1 (iw p1 q1) (lv p1 q1 : Int) (iw p3 q3) (lv p3 q3 : Int),iGL0 (iw p1 q1) (lv p1 q1 : Int) (iw p3 q3) (lv p3 q3 : Int)],Sm 12 x := fun x hx => by
    simp only [List.mem_cons,List.not_mem_nil,or_false] at hx
    rcases hx with rfl | rfl | rfl
    · exact sGL2 sw1 sv1 e0 e1
    · exact sGL1 sw1 sv1 e0 e1
    · exact sGL0 sw1 sv1 e0 e1
  refine dN4_spec q rf3 rf2 rf1 rf0 rw1 (rGL2 hM rw1 rv1 t0 t1) (rGL1 hM rw1 rv1 t0 t1) (rGL0 hM rw1 rv1 t0 t1) hG ⟨by simp,fun x hx => (g x hx).mono (by decide)⟩ (sv1.mono (by decide)) (sw1.mono (by decide)) ?_ hpos (Int.mul_pos (by lia) (show (lv p3 q3 : Int) > 0 by lia)) A4 (Nat.mul_pos (Nat.mul_pos A5 B5) D5) A3 ?_ hd
  · have s1 : Sm 3 (lk p1 q1 : Int) := sm3 (by lia)
    have s2 : Sm 3 (lk p2 q2 : Int) := sm3 (by lia)
    have s3 : Sm 3 (lk p3 q3 : Int) := sm3 (by lia)
    exact ((s1.mul s2).mul s3).mono (by decide)
  · have eK : ((lk p1 q1 * lk p2 q2 * lk p3 q3 : Nat) : Int) = (lk p1 q1 : Int) * (lk p2 q2 : Int) * (lk p3 q3 : Int) := by rw [Int.natCast_mul,Int.natCast_mul]
    rw [eK,ea,eb,ec,ed]
    clear ea eb ec ed rf0 rf1 rf2 rf3 hd hG h3 hpos
    simp only [cz,List.cons.injEq,and_true,iLLL0,iLLL1,iLLL2,iLLL3,iGL0,iGL1,iGL2]
    rw [A1,A2,B1,B2,D1,D2]
    refine ⟨by grind,by grind,by grind,by grind⟩
noncomputable def kLLL (W M H T p1 q1 p2 q2 p3 q3 m0 m1 m2 m3 u : Nat) : Bool := (fun (f0 f1 f2 f3 : Nat) => (Bool.rec false (sN4 W M H T f3 f2 f1 f0 u (Bool.rec (Bool.rec (Bool.rec (genI [(iLLL3 (1 - (p1 : Int)) (q1 : Int) (1 - (p2 : Int)) (q2 : Int) (1 - (p3 : Int)) (q3 : Int)),(iLLL2 (1 - (p1 : Int)) (q1 : Int) (1 - (p2 : Int)) (q2 : Int) (1 - (p3 : Int)) (q3 : Int)),(iLLL1 (1 - (p1 : Int)) (q1 : Int) (1 - (p2 : Int)) (q2 : Int) (1 - (p3 : Int)) (q3 : Int)),(iLLL0 (1 - (p1 : Int)) (q1 : Int) (1 - (p2 : Int)) (q2 : Int) (1 - (p3 : Int)) (q3 : Int))] u) true (Bool.rec false (dN4 W M H T f3 f2 f1 f0 (lv p2 q2) (lw W p2 q2) (nGL2 W M (lw W p2 q2) (lv p2 q2) (lw W p1 q1) (lv p1 q1)) (nGL1 W M (lw W p2 q2) (lv p2 q2) (lw W p1 q1) (lv p1 q1)) (nGL0 W M (lw W p2 q2) (lv p2 q2) (lw W p1 q1) (lv p1 q1)) (Nat.mul (Nat.mul (lk p2 q2) (lk p3 q3)) (lk p1 q1)) u) (pB W p2 q2 p3 q3))) true (Bool.rec false (dN4 W M H T f3 f2 f1 f0 (lv p1 q1) (lw W p1 q1) (nGL2 W M (lw W p1 q1) (lv p1 q1) (lw W p2 q2) (lv p2 q2)) (nGL1 W M (lw W p1 q1) (lv p1 q1) (lw W p2 q2) (lv p2 q2)) (nGL0 W M (lw W p1 q1) (lv p1 q1) (lw W p2 q2) (lv p2 q2)) (Nat.mul (Nat.mul (lk p1 q1) (lk p3 q3)) (lk p2 q2)) u) (pB W p1 q1 p3 q3))) true (Bool.rec false (dN4 W M H T f3 f2 f1 f0 (lv p1 q1) (lw W p1 q1) (nGL2 W M (lw W p1 q1) (lv p1 q1) (lw W p3 q3) (lv p3 q3)) (nGL1 W M (lw W p1 q1) (lv p1 q1) (lw W p3 q3) (lv p3 q3)) (nGL0 W M (lw W p1 q1) (lv p1 q1) (lw W p3 q3) (lv p3 q3)) (Nat.mul (Nat.mul (lk p1 q1) (lk p2 q2)) (lk p3 q3)) u) (pB W p1 q1 p2 q2)))) (Nat.beq (rd4 W M H T f0 f1 f2 f3 m0 m1 m2 m3) (nat_lit 0)))) (nLLL0 W M (lx W p1) q1 (lx W p2) q2 (lx W p3) q3) (nLLL1 W M (lx W p1) q1 (lx W p2) q2 (lx W p3) q3) (nLLL2 W M (lx W p1) q1 (lx W p2) q2 (lx W p3) q3) (nLLL3 W M (lx W p1) q1 (lx W p2) q2 (lx W p3) q3)
theorem kLLL_spec {W M H p1 q1 p2 q2 p3 q3 m0 m1 m2 m3 u : Nat} (q : Mods W M H) (o1 : (Pt.ln p1 q1).Ok) (o2 : (Pt.ln p2 q2).Ok) (o3 : (Pt.ln p3 q3).Ok) (h : kLLL W M H tab p1 q1 p2 q2 p3 q3 m0 m1 m2 m3 u = true) :
    (∀ x ∈ [(iLLL0 (1 - (p1 : Int)) (q1 : Int) (1 - (p2 : Int)) (q2 : Int) (1 - (p3 : Int)) (q3 : Int)),(iLLL1 (1 - (p1 : Int)) (q1 : Int) (1 - (p2 : Int)) (q2 : Int) (1 - (p3 : Int)) (q3 : Int)),(iLLL2 (1 - (p1 : Int)) (q1 : Int) (1 - (p2 : Int)) (q2 : Int) (1 - (p3 : Int)) (q3 : Int)),(iLLL3 (1 - (p1 : Int)) (q1 : Int) (1 - (p2 : Int)) (q2 : Int) (1 - (p3 : Int)) (q3 : Int))],Sm 12 x) ∧ (iLLL3 (1 - (p1 : Int)) (q1 : Int) (1 - (p2 : Int)) (q2 : Int) (1 - (p3 : Int)) (q3 : Int)) > 0 ∧ RowsOk (ck [(iLLL0 (1 - (p1 : Int)) (q1 : Int) (1 - (p2 : Int)) (q2 : Int) (1 - (p3 : Int)) (q3 : Int)),(iLLL1 (1 - (p1 : Int)) (q1 : Int) (1 - (p2 : Int)) (q2 : Int) (1 - (p3 : Int)) (q3 : Int)),(iLLL2 (1 - (p1 : Int)) (q1 : Int) (1 - (p2 : Int)) (q2 : Int) (1 - (p3 : Int)) (q3 : Int)),(iLLL3 (1 - (p1 : Int)) (q1 : Int) (1 - (p2 : Int)) (q2 : Int) (1 - (p3 : Int)) (q3 : Int))]) (ck (leftL [(iLLL0 (1 - (p1 : Int)) (q1 : Int) (1 - (p2 : Int)) (q2 : Int) (1 - (p3 : Int)) (q3 : Int)),(iLLL1 (1 - (p1 : Int)) (q1 : Int) (1 - (p2 : Int)) (q2 : Int) (1 - (p3 : Int)) (q3 : Int)),(iLLL2 (1 - (p1 : Int)) (q1 : Int) (1 - (p2 : Int)) (q2 : Int) (1 - (p3 : Int)) (q3 : Int)),(iLLL3 (1 - (p1 : Int)) (q1 : Int) (1 - (p2 : Int)) (q2 : Int) (1 - (p3 : Int)) (q3 : Int))])) (ck (shL (leftL [(iLLL0 (1 - (p1 : Int)) (q1 : Int) (1 - (p2 : Int)) (q2 : Int) (1 - (p3 : Int)) (q3 : Int)),(iLLL1 (1 - (p1 : Int)) (q1 : Int) (1 - (p2 : Int)) (q2 : Int) (1 - (p3 : Int)) (q3 : Int)),(iLLL2 (1 - (p1 : Int)) (q1 : Int) (1 - (p2 : Int)) (q2 : Int) (1 - (p3 : Int)) (q3 : Int)),(iLLL3 (1 - (p1 : Int)) (q1 : Int) (1 - (p2 : Int)) (q2 : Int) (1 - (p3 : Int)) (q3 : Int))]))) m0 m1 m2 m3 ∧ SturmOk [(iLLL3 (1 - (p1 : Int)) (q1 : Int) (1 - (p2 : Int)) (q2 : Int) (1 - (p3 : Int)) (q3 : Int)),(iLLL2 (1 - (p1 : Int)) (q1 : Int) (1 - (p2 : Int)) (q2 : Int) (1 - (p3 : Int)) (q3 : Int)),(iLLL1 (1 - (p1 : Int)) (q1 : Int) (1 - (p2 : Int)) (q2 : Int) (1 - (p3 : Int)) (q3 : Int)),(iLLL0 (1 - (p1 : Int)) (q1 : Int) (1 - (p2 : Int)) (q2 : Int) (1 - (p3 : Int)) (q3 : Int))] u := by
  have hM := q.m
  have hB := mods_big q
  have rf0 := rLLL0 hM (lx_rn (p := p1) (by have := o1.1; lia)) (Rn.ofNat q1) (lx_rn (p := p2) (by have := o2.1; lia)) (Rn.ofNat q2) (lx_rn (p := p3) (by have := o3.1; lia)) (Rn.ofNat q3)
  have sf0 := sLLL0 (ln_int o1).1 (ln_int o1).2 (ln_int o2).1 (ln_int o2).2 (ln_int o3).1 (ln_int o3).2
  have rf1 := rLLL1 hM (lx_rn (p := p1) (by have := o1.1; lia)) (Rn.ofNat q1) (lx_rn (p := p2) (by have := o2.1; lia)) (Rn.ofNat q2) (lx_rn (p := p3) (by have := o3.1; lia)) (Rn.ofNat q3)
  have sf1 := sLLL1 (ln_int o1).1 (ln_int o1).2 (ln_int o2).1 (ln_int o2).2 (ln_int o3).1 (ln_int o3).2
  have rf2 := rLLL2 hM (lx_rn (p := p1) (by have := o1.1; lia)) (Rn.ofNat q1) (lx_rn (p := p2) (by have := o2.1; lia)) (Rn.ofNat q2) (lx_rn (p := p3) (by have := o3.1; lia)) (Rn.ofNat q3)
  have sf2 := sLLL2 (ln_int o1).1 (ln_int o1).2 (ln_int o2).1 (ln_int o2).2 (ln_int o3).1 (ln_int o3).2
  have rf3 := rLLL3 hM (lx_rn (p := p1) (by have := o1.1; lia)) (Rn.ofNat q1) (lx_rn (p := p2) (by have := o2.1; lia)) (Rn.ofNat q2) (lx_rn (p := p3) (by have := o3.1; lia)) (Rn.ofNat q3)
  have sf3 := sLLL3 (ln_int o1).1 (ln_int o1).2 (ln_int o2).1 (ln_int o2).2 (ln_int o3).1 (ln_int o3).2
  have hpos : (iLLL3 (1 - (p1 : Int)) (q1 : Int) (1 - (p2 : Int)) (q2 : Int) (1 - (p3 : Int)) (q3 : Int)) > 0 := (Int.mul_pos (Int.mul_pos (show (q1 : Int) > 0 by have := o1.2.1; lia) (show (q2 : Int) > 0 by have := o2.2.1; lia)) (show (q3 : Int) > 0 by have := o3.2.1; lia))
  have hS12 : ∀ x ∈ [(iLLL0 (1 - (p1 : Int)) (q1 : Int) (1 - (p2 : Int)) (q2 : Int) (1 - (p3 : Int)) (q3 : Int)),(iLLL1 (1 - (p1 : Int)) (q1 : Int) (1 - (p2 : Int)) (q2 : Int) (1 - (p3 : Int)) (q3 : Int)),(iLLL2 (1 - (p1 : Int)) (q1 : Int) (1 - (p2 : Int)) (q2 : Int) (1 - (p3 : Int)) (q3 : Int)),(iLLL3 (1 - (p1 : Int)) (q1 : Int) (1 - (p2 : Int)) (q2 : Int) (1 - (p3 : Int)) (q3 : Int))],Sm 12 x := fun x hx => by
    simp only [List.mem_cons,List.not_mem_nil,or_false] at hx
    rcases hx with rfl | rfl | rfl | rfl
    · exact sf0
    · exact sf1
    · exact sf2
    · exact sf3
  have hG : Gd 100 20 [(iLLL3 (1 - (p1 : Int)) (q1 : Int) (1 - (p2 : Int)) (q2 : Int) (1 - (p3 : Int)) (q3 : Int)),(iLLL2 (1 - (p1 : Int)) (q1 : Int) (1 - (p2 : Int)) (q2 : Int) (1 - (p3 : Int)) (q3 : Int)),(iLLL1 (1 - (p1 : Int)) (q1 : Int) (1 - (p2 : Int)) (q2 : Int) (1 - (p3 : Int)) (q3 : Int)),(iLLL0 (1 - (p1 : Int)) (q1 : Int) (1 - (p2 : Int)) (q2 : Int) (1 - (p3 : Int)) (q3 : Int))] := ⟨by simp,fun x hx => by
    simp only [List.mem_cons,List.not_mem_nil,or_false] at hx
    rcases hx with rfl | rfl | rfl | rfl
    · exact sf3.mono (by decide)
    · exact sf2.mono (by decide)
    · exact sf1.mono (by decide)
    · exact sf0.mono (by decide)⟩
  unfold kLLL at h
  dsimp only at h
  obtain ⟨h1,h2⟩ := rec_and h
  have h1 := Nat.eq_of_beq_eq_true h1
  refine ⟨hS12,hpos,rd4_spec q rf0 (sm12 sf0) rf1 (sm12 sf1) rf2 (sm12 sf2) rf3 (sm12 sf3) h1,?_⟩
  rcases sN4_spec q rf3 rf2 rf1 rf0 hG hpos h2 with h3 | h3
  · exact h3.ok
  · rcases rec_or h3 with h3 | h3
    · exact dLLL_spec q o1 o2 o3 rf0 rf1 rf2 rf3 hG hpos rfl rfl rfl rfl h3
    rcases rec_or h3 with h3 | h3
    · refine dLLL_spec q o1 o3 o2 rf0 rf1 rf2 rf3 hG hpos ?_ ?_ ?_ ?_ h3
      all_goals simp only [iLLL0,iLLL1,iLLL2,iLLL3]; grind
    rcases rec_or h3 with h3 | h3
    · refine dLLL_spec q o2 o3 o1 rf0 rf1 rf2 rf3 hG hpos ?_ ?_ ?_ ?_ h3
      all_goals simp only [iLLL0,iLLL1,iLLL2,iLLL3]; grind
    exact genI_spec h3
noncomputable def gLLL (W M H T p1 q1 p2 q2 p3 q3 : Nat) : Bool := kLLL W M H T p1 q1 p2 q2 p3 q3 (Nat.add (c0N p1 q1) (Nat.add (c0N p2 q2) (c0N p3 q3))) (Nat.add (c1N p1 q1) (Nat.add (c1N p2 q2) (c1N p3 q3))) (Nat.add (c2N p1 q1) (Nat.add (c2N p2 q2) (c2N p3 q3))) (Nat.add (c3N p1 q1) (Nat.add (c3N p2 q2) (c3N p3 q3))) (un3 (kyN p1 q1) (kyN p2 q2) (kyN p3 q3))
theorem gLLL_spec {W M H p1 q1 p2 q2 p3 q3 : Nat} (q : Mods W M H) (o1 : (Pt.ln p1 q1).Ok) (o2 : (Pt.ln p2 q2).Ok) (o3 : (Pt.ln p3 q3).Ok) (h : gLLL W M H tab p1 q1 p2 q2 p3 q3 = true) : LawT [Pt.ln p1 q1,Pt.ln p2 q2,Pt.ln p3 q3] := by
  obtain ⟨h1,h2,h3,h4⟩ := kLLL_spec q o1 o2 o3 h
  · refine lawT_4 (?_ : ∀ x ∈ _,Pt.Ok x) (by simp) h1 h2 ?_ (cnts3 o1 o2 o3) h3 h4
    · intro x hx
      simp only [List.mem_cons,List.not_mem_nil,or_false] at hx
      rcases hx with rfl | rfl | rfl
      · exact o1
      · exact o2
      · exact o3
    · show mulL (mulL (mulL [1] [(1 - (p1 : Int)),(q1 : Int)]) [(1 - (p2 : Int)),(q2 : Int)]) [(1 - (p3 : Int)),(q3 : Int)] = _
      rw [mul_1_2,mul_2_2,mul_3_2]
      simp only [List.cons.injEq,and_true,iLLL0,iLLL1,iLLL2,iLLL3] <;> and_intros <;> grind
noncomputable def iLLQ0 (x1 y1 x2 y2 u3 v3 w3 : Int) : Int := ((x1 * x2) * u3)
noncomputable def nLLQ0 (W M x1 y1 x2 y2 u3 v3 w3 : Nat) : Nat := Nat.mod (Nat.mul (Nat.mul x1 x2) u3) W
theorem rLLQ0 {W M x1' y1' x2' y2' u3' v3' w3' : Nat} {x1 y1 x2 y2 u3 v3 w3 : Int} (hM : M + 1 = W) (rx1 : Rn W x1' x1) (ry1 : Rn W y1' y1) (rx2 : Rn W x2' x2) (ry2 : Rn W y2' y2) (ru3 : Rn W u3' u3) (rv3 : Rn W v3' v3) (rw3 : Rn W w3' w3) : Rn W (nLLQ0 W M x1' y1' x2' y2' u3' v3' w3') (iLLQ0 x1 y1 x2 y2 u3 v3 w3) := Rn.mod (Rn.mul (Rn.mul rx1 rx2) ru3)
theorem sLLQ0 {x1 y1 x2 y2 u3 v3 w3 : Int} (sx1 : Sm 3 x1) (sy1 : Sm 3 y1) (sx2 : Sm 3 x2) (sy2 : Sm 3 y2) (su3 : Sm 3 u3) (sv3 : Sm 3 v3) (sw3 : Sm 3 w3) : Sm 12 (iLLQ0 x1 y1 x2 y2 u3 v3 w3) := Sm.mono (Sm.mul (Sm.mul sx1 sx2) su3) (show 9 ≤ 12 by decide)
noncomputable def iLLQ1 (x1 y1 x2 y2 u3 v3 w3 : Int) : Int := (((x1 * x2) * v3) + (((x1 * y2) + (y1 * x2)) * u3))
noncomputable def nLLQ1 (W M x1 y1 x2 y2 u3 v3 w3 : Nat) : Nat := Nat.mod (Nat.add (Nat.mul (Nat.mul x1 x2) v3) (Nat.mul (Nat.add (Nat.mul x1 y2) (Nat.mul y1 x2)) u3)) W
theorem rLLQ1 {W M x1' y1' x2' y2' u3' v3' w3' : Nat} {x1 y1 x2 y2 u3 v3 w3 : Int} (hM : M + 1 = W) (rx1 : Rn W x1' x1) (ry1 : Rn W y1' y1) (rx2 : Rn W x2' x2) (ry2 : Rn W y2' y2) (ru3 : Rn W u3' u3) (rv3 : Rn W v3' v3) (rw3 : Rn W w3' w3) : Rn W (nLLQ1 W M x1' y1' x2' y2' u3' v3' w3') (iLLQ1 x1 y1 x2 y2 u3 v3 w3) := Rn.mod (Rn.add (Rn.mul (Rn.mul rx1 rx2) rv3) (Rn.mul (Rn.add (Rn.mul rx1 ry2) (Rn.mul ry1 rx2)) ru3))
theorem sLLQ1 {x1 y1 x2 y2 u3 v3 w3 : Int} (sx1 : Sm 3 x1) (sy1 : Sm 3 y1) (sx2 : Sm 3 x2) (sy2 : Sm 3 y2) (su3 : Sm 3 u3) (sv3 : Sm 3 v3) (sw3 : Sm 3 w3) : Sm 12 (iLLQ1 x1 y1 x2 y2 u3 v3 w3) := Sm.mono (sm_add (Sm.mul (Sm.mul sx1 sx2) sv3) (Sm.mul (sm_add (Sm.mul sx1 sy2) (Sm.mul sy1 sx2)) su3)) (show 11 ≤ 12 by decide)
noncomputable def iLLQ2 (x1 y1 x2 y2 u3 v3 w3 : Int) : Int := ((((x1 * x2) * w3) + (((x1 * y2) + (y1 * x2)) * v3)) + ((y1 * y2) * u3))
noncomputable def nLLQ2 (W M x1 y1 x2 y2 u3 v3 w3 : Nat) : Nat := Nat.mod (Nat.add (Nat.add (Nat.mul (Nat.mul x1 x2) w3) (Nat.mul (Nat.add (Nat.mul x1 y2) (Nat.mul y1 x2)) v3)) (Nat.mul (Nat.mul y1 y2) u3)) W
theorem rLLQ2 {W M x1' y1' x2' y2' u3' v3' w3' : Nat} {x1 y1 x2 y2 u3 v3 w3 : Int} (hM : M + 1 = W) (rx1 : Rn W x1' x1) (ry1 : Rn W y1' y1) (rx2 : Rn W x2' x2) (ry2 : Rn W y2' y2) (ru3 : Rn W u3' u3) (rv3 : Rn W v3' v3) (rw3 : Rn W w3' w3) : Rn W (nLLQ2 W M x1' y1' x2' y2' u3' v3' w3') (iLLQ2 x1 y1 x2 y2 u3 v3 w3) := Rn.mod (Rn.add (Rn.add (Rn.mul (Rn.mul rx1 rx2) rw3) (Rn.mul (Rn.add (Rn.mul rx1 ry2) (Rn.mul ry1 rx2)) rv3)) (Rn.mul (Rn.mul ry1 ry2) ru3))
theorem sLLQ2 {x1 y1 x2 y2 u3 v3 w3 : Int} (sx1 : Sm 3 x1) (sy1 : Sm 3 y1) (sx2 : Sm 3 x2) (sy2 : Sm 3 y2) (su3 : Sm 3 u3) (sv3 : Sm 3 v3) (sw3 : Sm 3 w3) : Sm 12 (iLLQ2 x1 y1 x2 y2 u3 v3 w3) := Sm.mono (sm_add (sm_add (Sm.mul (Sm.mul sx1 sx2) sw3) (Sm.mul (sm_add (Sm.mul sx1 sy2) (Sm.mul sy1 sx2)) sv3)) (Sm.mul (Sm.mul sy1 sy2) su3)) (show 12 ≤ 12 by decide)
noncomputable def iLLQ3 (x1 y1 x2 y2 u3 v3 w3 : Int) : Int := ((((x1 * y2) + (y1 * x2)) * w3) + ((y1 * y2) * v3))
noncomputable def nLLQ3 (W M x1 y1 x2 y2 u3 v3 w3 : Nat) : Nat := Nat.mod (Nat.add (Nat.mul (Nat.add (Nat.mul x1 y2) (Nat.mul y1 x2)) w3) (Nat.mul (Nat.mul y1 y2) v3)) W
theorem rLLQ3 {W M x1' y1' x2' y2' u3' v3' w3' : Nat} {x1 y1 x2 y2 u3 v3 w3 : Int} (hM : M + 1 = W) (rx1 : Rn W x1' x1) (ry1 : Rn W y1' y1) (rx2 : Rn W x2' x2) (ry2 : Rn W y2' y2) (ru3 : Rn W u3' u3) (rv3 : Rn W v3' v3) (rw3 : Rn W w3' w3) : Rn W (nLLQ3 W M x1' y1' x2' y2' u3' v3' w3') (iLLQ3 x1 y1 x2 y2 u3 v3 w3) := Rn.mod (Rn.add (Rn.mul (Rn.add (Rn.mul rx1 ry2) (Rn.mul ry1 rx2)) rw3) (Rn.mul (Rn.mul ry1 ry2) rv3))
theorem sLLQ3 {x1 y1 x2 y2 u3 v3 w3 : Int} (sx1 : Sm 3 x1) (sy1 : Sm 3 y1) (sx2 : Sm 3 x2) (sy2 : Sm 3 y2) (su3 : Sm 3 u3) (sv3 : Sm 3 v3) (sw3 : Sm 3 w3) : Sm 12 (iLLQ3 x1 y1 x2 y2 u3 v3 w3) := Sm.mono (sm_add (Sm.mul (sm_add (Sm.mul sx1 sy2) (Sm.mul sy1 sx2)) sw3) (Sm.mul (Sm.mul sy1 sy2) sv3)) (show 11 ≤ 12 by decide)
noncomputable def iLLQ4 (x1 y1 x2 y2 u3 v3 w3 : Int) : Int := ((y1 * y2) * w3)
noncomputable def nLLQ4 (W M x1 y1 x2 y2 u3 v3 w3 : Nat) : Nat := Nat.mod (Nat.mul (Nat.mul y1 y2) w3) W
theorem rLLQ4 {W M x1' y1' x2' y2' u3' v3' w3' : Nat} {x1 y1 x2 y2 u3 v3 w3 : Int} (hM : M + 1 = W) (rx1 : Rn W x1' x1) (ry1 : Rn W y1' y1) (rx2 : Rn W x2' x2) (ry2 : Rn W y2' y2) (ru3 : Rn W u3' u3) (rv3 : Rn W v3' v3) (rw3 : Rn W w3' w3) : Rn W (nLLQ4 W M x1' y1' x2' y2' u3' v3' w3') (iLLQ4 x1 y1 x2 y2 u3 v3 w3) := Rn.mod (Rn.mul (Rn.mul ry1 ry2) rw3)
theorem sLLQ4 {x1 y1 x2 y2 u3 v3 w3 : Int} (sx1 : Sm 3 x1) (sy1 : Sm 3 y1) (sx2 : Sm 3 x2) (sy2 : Sm 3 y2) (su3 : Sm 3 u3) (sv3 : Sm 3 v3) (sw3 : Sm 3 w3) : Sm 12 (iLLQ4 x1 y1 x2 y2 u3 v3 w3) := Sm.mono (Sm.mul (Sm.mul sy1 sy2) sw3) (show 9 ≤ 12 by decide)
noncomputable def kLLQ (W M H T p1 q1 p2 q2 c3 b3 r3 m0 m1 m2 m3 u : Nat) : Bool := (fun (f0 f1 f2 f3 f4 : Nat) => (Bool.rec false (sN5 W M H T f4 f3 f2 f1 f0 u (Bool.rec (genI [(iLLQ4 (1 - (p1 : Int)) (q1 : Int) (1 - (p2 : Int)) (q2 : Int) (2 + (c3 : Int)) ((b3 : Int) - 2) (r3 : Int)),(iLLQ3 (1 - (p1 : Int)) (q1 : Int) (1 - (p2 : Int)) (q2 : Int) (2 + (c3 : Int)) ((b3 : Int) - 2) (r3 : Int)),(iLLQ2 (1 - (p1 : Int)) (q1 : Int) (1 - (p2 : Int)) (q2 : Int) (2 + (c3 : Int)) ((b3 : Int) - 2) (r3 : Int)),(iLLQ1 (1 - (p1 : Int)) (q1 : Int) (1 - (p2 : Int)) (q2 : Int) (2 + (c3 : Int)) ((b3 : Int) - 2) (r3 : Int)),(iLLQ0 (1 - (p1 : Int)) (q1 : Int) (1 - (p2 : Int)) (q2 : Int) (2 + (c3 : Int)) ((b3 : Int) - 2) (r3 : Int))] u) true (Bool.rec false (dN5 W M H T f4 f3 f2 f1 f0 (lv p1 q1) (lw W p1 q1) (nGQ3 W M (lw W p1 q1) (lv p1 q1) (qd0 c3 b3 r3) (qd1 W c3 b3 r3) (qd2 c3 b3 r3)) (nGQ2 W M (lw W p1 q1) (lv p1 q1) (qd0 c3 b3 r3) (qd1 W c3 b3 r3) (qd2 c3 b3 r3)) (nGQ1 W M (lw W p1 q1) (lv p1 q1) (qd0 c3 b3 r3) (qd1 W c3 b3 r3) (qd2 c3 b3 r3)) (nGQ0 W M (lw W p1 q1) (lv p1 q1) (qd0 c3 b3 r3) (qd1 W c3 b3 r3) (qd2 c3 b3 r3)) (Nat.mul (Nat.mul (lk p1 q1) (lk p2 q2)) (qk c3 b3 r3)) u) (pB W p1 q1 p2 q2)))) (Nat.beq (rd5 W M H T f0 f1 f2 f3 f4 m0 m1 m2 m3) (nat_lit 0)))) (nLLQ0 W M (lx W p1) q1 (lx W p2) q2 (Nat.add (nat_lit 2) c3) (qb W b3) r3) (nLLQ1 W M (lx W p1) q1 (lx W p2) q2 (Nat.add (nat_lit 2) c3) (qb W b3) r3) (nLLQ2 W M (lx W p1) q1 (lx W p2) q2 (Nat.add (nat_lit 2) c3) (qb W b3) r3) (nLLQ3 W M (lx W p1) q1 (lx W p2) q2 (Nat.add (nat_lit 2) c3) (qb W b3) r3) (nLLQ4 W M (lx W p1) q1 (lx W p2) q2 (Nat.add (nat_lit 2) c3) (qb W b3) r3)
theorem kLLQ_spec {W M H p1 q1 p2 q2 c3 b3 r3 m0 m1 m2 m3 u : Nat} (q : Mods W M H) (o1 : (Pt.ln p1 q1).Ok) (o2 : (Pt.ln p2 q2).Ok) (o3 : (Pt.qd c3 b3 r3).Ok) (h : kLLQ W M H tab p1 q1 p2 q2 c3 b3 r3 m0 m1 m2 m3 u = true) :
    (∀ x ∈ [(iLLQ0 (1 - (p1 : Int)) (q1 : Int) (1 - (p2 : Int)) (q2 : Int) (2 + (c3 : Int)) ((b3 : Int) - 2) (r3 : Int)),(iLLQ1 (1 - (p1 : Int)) (q1 : Int) (1 - (p2 : Int)) (q2 : Int) (2 + (c3 : Int)) ((b3 : Int) - 2) (r3 : Int)),(iLLQ2 (1 - (p1 : Int)) (q1 : Int) (1 - (p2 : Int)) (q2 : Int) (2 + (c3 : Int)) ((b3 : Int) - 2) (r3 : Int)),(iLLQ3 (1 - (p1 : Int)) (q1 : Int) (1 - (p2 : Int)) (q2 : Int) (2 + (c3 : Int)) ((b3 : Int) - 2) (r3 : Int)),(iLLQ4 (1 - (p1 : Int)) (q1 : Int) (1 - (p2 : Int)) (q2 : Int) (2 + (c3 : Int)) ((b3 : Int) - 2) (r3 : Int))],Sm 12 x) ∧ (iLLQ4 (1 - (p1 : Int)) (q1 : Int) (1 - (p2 : Int)) (q2 : Int) (2 + (c3 : Int)) ((b3 : Int) - 2) (r3 : Int)) > 0 ∧ RowsOk (ck [(iLLQ0 (1 - (p1 : Int)) (q1 : Int) (1 - (p2 : Int)) (q2 : Int) (2 + (c3 : Int)) ((b3 : Int) - 2) (r3 : Int)),(iLLQ1 (1 - (p1 : Int)) (q1 : Int) (1 - (p2 : Int)) (q2 : Int) (2 + (c3 : Int)) ((b3 : Int) - 2) (r3 : Int)),(iLLQ2 (1 - (p1 : Int)) (q1 : Int) (1 - (p2 : Int)) (q2 : Int) (2 + (c3 : Int)) ((b3 : Int) - 2) (r3 : Int)),(iLLQ3 (1 - (p1 : Int)) (q1 : Int) (1 - (p2 : Int)) (q2 : Int) (2 + (c3 : Int)) ((b3 : Int) - 2) (r3 : Int)),(iLLQ4 (1 - (p1 : Int)) (q1 : Int) (1 - (p2 : Int)) (q2 : Int) (2 + (c3 : Int)) ((b3 : Int) - 2) (r3 : Int))]) (ck (leftL [(iLLQ0 (1 - (p1 : Int)) (q1 : Int) (1 - (p2 : Int)) (q2 : Int) (2 + (c3 : Int)) ((b3 : Int) - 2) (r3 : Int)),(iLLQ1 (1 - (p1 : Int)) (q1 : Int) (1 - (p2 : Int)) (q2 : Int) (2 + (c3 : Int)) ((b3 : Int) - 2) (r3 : Int)),(iLLQ2 (1 - (p1 : Int)) (q1 : Int) (1 - (p2 : Int)) (q2 : Int) (2 + (c3 : Int)) ((b3 : Int) - 2) (r3 : Int)),(iLLQ3 (1 - (p1 : Int)) (q1 : Int) (1 - (p2 : Int)) (q2 : Int) (2 + (c3 : Int)) ((b3 : Int) - 2) (r3 : Int)),(iLLQ4 (1 - (p1 : Int)) (q1 : Int) (1 - (p2 : Int)) (q2 : Int) (2 + (c3 : Int)) ((b3 : Int) - 2) (r3 : Int))])) (ck (shL (leftL [(iLLQ0 (1 - (p1 : Int)) (q1 : Int) (1 - (p2 : Int)) (q2 : Int) (2 + (c3 : Int)) ((b3 : Int) - 2) (r3 : Int)),(iLLQ1 (1 - (p1 : Int)) (q1 : Int) (1 - (p2 : Int)) (q2 : Int) (2 + (c3 : Int)) ((b3 : Int) - 2) (r3 : Int)),(iLLQ2 (1 - (p1 : Int)) (q1 : Int) (1 - (p2 : Int)) (q2 : Int) (2 + (c3 : Int)) ((b3 : Int) - 2) (r3 : Int)),(iLLQ3 (1 - (p1 : Int)) (q1 : Int) (1 - (p2 : Int)) (q2 : Int) (2 + (c3 : Int)) ((b3 : Int) - 2) (r3 : Int)),(iLLQ4 (1 - (p1 : Int)) (q1 : Int) (1 - (p2 : Int)) (q2 : Int) (2 + (c3 : Int)) ((b3 : Int) - 2) (r3 : Int))]))) m0 m1 m2 m3 ∧ SturmOk [(iLLQ4 (1 - (p1 : Int)) (q1 : Int) (1 - (p2 : Int)) (q2 : Int) (2 + (c3 : Int)) ((b3 : Int) - 2) (r3 : Int)),(iLLQ3 (1 - (p1 : Int)) (q1 : Int) (1 - (p2 : Int)) (q2 : Int) (2 + (c3 : Int)) ((b3 : Int) - 2) (r3 : Int)),(iLLQ2 (1 - (p1 : Int)) (q1 : Int) (1 - (p2 : Int)) (q2 : Int) (2 + (c3 : Int)) ((b3 : Int) - 2) (r3 : Int)),(iLLQ1 (1 - (p1 : Int)) (q1 : Int) (1 - (p2 : Int)) (q2 : Int) (2 + (c3 : Int)) ((b3 : Int) - 2) (r3 : Int)),(iLLQ0 (1 - (p1 : Int)) (q1 : Int) (1 - (p2 : Int)) (q2 : Int) (2 + (c3 : Int)) ((b3 : Int) - 2) (r3 : Int))] u := by
  have hM := q.m
  have hB := mods_big q
  have rf0 := rLLQ0 hM (lx_rn (p := p1) (by have := o1.1; lia)) (Rn.ofNat q1) (lx_rn (p := p2) (by have := o2.1; lia)) (Rn.ofNat q2) (two_rn (c := c3)) (qb_rn (b := b3) (by lia)) (Rn.ofNat r3)
  have sf0 := sLLQ0 (ln_int o1).1 (ln_int o1).2 (ln_int o2).1 (ln_int o2).2 (qd_int o3).1 (qd_int o3).2.1 (qd_int o3).2.2
  have rf1 := rLLQ1 hM (lx_rn (p := p1) (by have := o1.1; lia)) (Rn.ofNat q1) (lx_rn (p := p2) (by have := o2.1; lia)) (Rn.ofNat q2) (two_rn (c := c3)) (qb_rn (b := b3) (by lia)) (Rn.ofNat r3)
  have sf1 := sLLQ1 (ln_int o1).1 (ln_int o1).2 (ln_int o2).1 (ln_int o2).2 (qd_int o3).1 (qd_int o3).2.1 (qd_int o3).2.2
  have rf2 := rLLQ2 hM (lx_rn (p := p1) (by have := o1.1; lia)) (Rn.ofNat q1) (lx_rn (p := p2) (by have := o2.1; lia)) (Rn.ofNat q2) (two_rn (c := c3)) (qb_rn (b := b3) (by lia)) (Rn.ofNat r3)
  have sf2 := sLLQ2 (ln_int o1).1 (ln_int o1).2 (ln_int o2).1 (ln_int o2).2 (qd_int o3).1 (qd_int o3).2.1 (qd_int o3).2.2
  have rf3 := rLLQ3 hM (lx_rn (p := p1) (by have := o1.1; lia)) (Rn.ofNat q1) (lx_rn (p := p2) (by have := o2.1; lia)) (Rn.ofNat q2) (two_rn (c := c3)) (qb_rn (b := b3) (by lia)) (Rn.ofNat r3)
  have sf3 := sLLQ3 (ln_int o1).1 (ln_int o1).2 (ln_int o2).1 (ln_int o2).2 (qd_int o3).1 (qd_int o3).2.1 (qd_int o3).2.2
  have rf4 := rLLQ4 hM (lx_rn (p := p1) (by have := o1.1; lia)) (Rn.ofNat q1) (lx_rn (p := p2) (by have := o2.1; lia)) (Rn.ofNat q2) (two_rn (c := c3)) (qb_rn (b := b3) (by lia)) (Rn.ofNat r3)
  have sf4 := sLLQ4 (ln_int o1).1 (ln_int o1).2 (ln_int o2).1 (ln_int o2).2 (qd_int o3).1 (qd_int o3).2.1 (qd_int o3).2.2
  have hpos : (iLLQ4 (1 - (p1 : Int)) (q1 : Int) (1 - (p2 : Int)) (q2 : Int) (2 + (c3 : Int)) ((b3 : Int) - 2) (r3 : Int)) > 0 := (Int.mul_pos (Int.mul_pos (show (q1 : Int) > 0 by have := o1.2.1; lia) (show (q2 : Int) > 0 by have := o2.2.1; lia)) (show (r3 : Int) > 0 by have := o3.2.2.1; lia))
  have hS12 : ∀ x ∈ [(iLLQ0 (1 - (p1 : Int)) (q1 : Int) (1 - (p2 : Int)) (q2 : Int) (2 + (c3 : Int)) ((b3 : Int) - 2) (r3 : Int)),(iLLQ1 (1 - (p1 : Int)) (q1 : Int) (1 - (p2 : Int)) (q2 : Int) (2 + (c3 : Int)) ((b3 : Int) - 2) (r3 : Int)),(iLLQ2 (1 - (p1 : Int)) (q1 : Int) (1 - (p2 : Int)) (q2 : Int) (2 + (c3 : Int)) ((b3 : Int) - 2) (r3 : Int)),(iLLQ3 (1 - (p1 : Int)) (q1 : Int) (1 - (p2 : Int)) (q2 : Int) (2 + (c3 : Int)) ((b3 : Int) - 2) (r3 : Int)),(iLLQ4 (1 - (p1 : Int)) (q1 : Int) (1 - (p2 : Int)) (q2 : Int) (2 + (c3 : Int)) ((b3 : Int) - 2) (r3 : Int))],Sm 12 x := fun x hx => by
    simp only [List.mem_cons,List.not_mem_nil,or_false] at hx
    rcases hx with rfl | rfl | rfl | rfl | rfl
    · exact sf0
    · exact sf1
    · exact sf2
    · exact sf3
    · exact sf4
  have hG : Gd 100 20 [(iLLQ4 (1 - (p1 : Int)) (q1 : Int) (1 - (p2 : Int)) (q2 : Int) (2 + (c3 : Int)) ((b3 : Int) - 2) (r3 : Int)),(iLLQ3 (1 - (p1 : Int)) (q1 : Int) (1 - (p2 : Int)) (q2 : Int) (2 + (c3 : Int)) ((b3 : Int) - 2) (r3 : Int)),(iLLQ2 (1 - (p1 : Int)) (q1 : Int) (1 - (p2 : Int)) (q2 : Int) (2 + (c3 : Int)) ((b3 : Int) - 2) (r3 : Int)),(iLLQ1 (1 - (p1 : Int)) (q1 : Int) (1 - (p2 : Int)) (q2 : Int) (2 + (c3 : Int)) ((b3 : Int) - 2) (r3 : Int)),(iLLQ0 (1 - (p1 : Int)) (q1 : Int) (1 - (p2 : Int)) (q2 : Int) (2 + (c3 : Int)) ((b3 : Int) - 2) (r3 : Int))] := ⟨by simp,fun x hx => by
    simp only [List.mem_cons,List.not_mem_nil,or_false] at hx
    rcases hx with rfl | rfl | rfl | rfl | rfl
    · exact sf4.mono (by decide)
    · exact sf3.mono (by decide)
    · exact sf2.mono (by decide)
    · exact sf1.mono (by decide)
    · exact sf0.mono (by decide)⟩
  unfold kLLQ at h
  dsimp only at h
  obtain ⟨h1,h2⟩ := rec_and h
  have h1 := Nat.eq_of_beq_eq_true h1
  refine ⟨hS12,hpos,rd5_spec q rf0 (sm12 sf0) rf1 (sm12 sf1) rf2 (sm12 sf2) rf3 (sm12 sf3) rf4 (sm12 sf4) h1,?_⟩
  rcases sN5_spec q rf4 rf3 rf2 rf1 rf0 hG hpos h2 with h3 | h3
  · exact h3.ok
  · rcases rec_or h3 with h3 | h3
    · obtain ⟨hp,hd⟩ := rec_and h3
      obtain ⟨ev,ew⟩ := pB_spec hB o1 o2 hp
      obtain ⟨⟨A1,A2,A3,A4,A5,A6,A7,A8⟩,_⟩ := line_all o1
      obtain ⟨⟨B1,B2,B3,B4,B5,B6,B7,B8⟩,_⟩ := line_all o2
      rw [← ew] at B2
      rw [← ev] at B1
      have rw1 := lw_rn (W := W) (p := p1) (q := q1) (by have := o1.1; lia)
      have rv1 := Rn.ofNat (W := W) (lv p1 q1)
      have sw1 : Sm 3 (iw p1 q1) := sm3 (by lia)
      have sv1 : Sm 3 (lv p1 q1 : Int) := sm3 (by lia)
      obtain ⟨D1,D2,D3,D4,D5,D6,D7,D8,D9⟩ := quad_all o3
      have t0 := Rn.ofNat (W := W) (qd0 c3 b3 r3)
      have t1 := qd1_rn (W := W) (c := c3) (b := b3) (q := r3) (by lia)
      have t2 := Rn.ofNat (W := W) (qd2 c3 b3 r3)
      have e0 : Sm 3 (qd0 c3 b3 r3 : Int) := sm3 (by lia)
      have e1 : Sm 3 (iq1 c3 b3 r3) := sm3 (by lia)
      have e2 : Sm 3 (qd2 c3 b3 r3 : Int) := sm3 (by lia)
      have rg0 := rGQ0 hM rw1 rv1 t0 t1 t2
      have sg0 := sGQ0 sw1 sv1 e0 e1 e2
      have rg1 := rGQ1 hM rw1 rv1 t0 t1 t2
      have sg1 := sGQ1 sw1 sv1 e0 e1 e2
      have rg2 := rGQ2 hM rw1 rv1 t0 t1 t2
      have sg2 := sGQ2 sw1 sv1 e0 e1 e2
      have rg3 := rGQ3 hM rw1 rv1 t0 t1 t2
      have sg3 := sGQ3 sw1 sv1 e0 e1 e2
      refine dN5_spec q rf4 rf3 rf2 rf1 rf0 rw1 rg3 rg2 rg1 rg0 hG ⟨by simp,fun x hx => ?_⟩ (sv1.mono (by decide)) (sw1.mono (by decide)) ?_ hpos (Int.mul_pos (by lia) (show (qd2 c3 b3 r3 : Int) > 0 by lia)) A4 (Nat.mul_pos (Nat.mul_pos A5 B5) D4) A3 ?_ hd
      · simp only [List.mem_cons,List.not_mem_nil,or_false] at hx
        rcases hx with rfl | rfl | rfl | rfl
        · exact sg3.mono (by decide)
        · exact sg2.mono (by decide)
        · exact sg1.mono (by decide)
        · exact sg0.mono (by decide)
      · have s1 : Sm 3 (lk p1 q1 : Int) := sm3 (by lia)
        have s2 : Sm 3 (lk p2 q2 : Int) := sm3 (by lia)
        have s3 : Sm 3 (qk c3 b3 r3 : Int) := sm3 (by lia)
        exact ((s1.mul s2).mul s3).mono (by decide)
      · have eK : ((lk p1 q1 * lk p2 q2 * (qk c3 b3 r3) : Nat) : Int) = (lk p1 q1 : Int) * (lk p2 q2 : Int) * (qk c3 b3 r3 : Int) := by rw [Int.natCast_mul,Int.natCast_mul]
        rw [eK]
        clear h h1 h2 hd hS12 hG
        simp only [cz,List.cons.injEq,and_true,iLLQ0,iLLQ1,iLLQ2,iLLQ3,iLLQ4,iGQ0,iGQ1,iGQ2,iGQ3]
        rw [A1,A2,B1,B2,D1,D2,D3]
        refine ⟨by grind,by grind,by grind,by grind,by grind⟩
    exact genI_spec h3
noncomputable def gLLQ (W M H T p1 q1 p2 q2 c3 b3 r3 : Nat) : Bool := kLLQ W M H T p1 q1 p2 q2 c3 b3 r3 (Nat.add (c0N p1 q1) (c0N p2 q2)) (Nat.add (c1N p1 q1) (c1N p2 q2)) (Nat.add (c2N p1 q1) (c2N p2 q2)) (Nat.add (c3N p1 q1) (c3N p2 q2)) (un2 (kyN p1 q1) (kyN p2 q2))
theorem gLLQ_spec {W M H p1 q1 p2 q2 c3 b3 r3 : Nat} (q : Mods W M H) (o1 : (Pt.ln p1 q1).Ok) (o2 : (Pt.ln p2 q2).Ok) (o3 : (Pt.qd c3 b3 r3).Ok) (h : gLLQ W M H tab p1 q1 p2 q2 c3 b3 r3 = true) : LawT [Pt.ln p1 q1,Pt.ln p2 q2,Pt.qd c3 b3 r3] ∧ LawT [Pt.ln p1 q1,Pt.qd c3 b3 r3,Pt.ln p2 q2] ∧ LawT [Pt.ln p2 q2,Pt.ln p1 q1,Pt.qd c3 b3 r3] ∧ LawT [Pt.ln p2 q2,Pt.qd c3 b3 r3,Pt.ln p1 q1] ∧ LawT [Pt.qd c3 b3 r3,Pt.ln p1 q1,Pt.ln p2 q2] ∧ LawT [Pt.qd c3 b3 r3,Pt.ln p2 q2,Pt.ln p1 q1] := by
  obtain ⟨h1,h2,h3,h4⟩ := kLLQ_spec q o1 o2 o3 h
  refine ⟨?_,?_,?_,?_,?_,?_⟩
  · refine lawT_5 (?_ : ∀ x ∈ _,Pt.Ok x) (by simp) h1 h2 ?_ (cnts2 o1 o2) h3 h4
    · intro x hx
      simp only [List.mem_cons,List.not_mem_nil,or_false] at hx
      rcases hx with rfl | rfl | rfl
      · exact o1
      · exact o2
      · exact o3
    · show mulL (mulL (mulL [1] [(1 - (p1 : Int)),(q1 : Int)]) [(1 - (p2 : Int)),(q2 : Int)]) [(2 + (c3 : Int)),((b3 : Int) - 2),(r3 : Int)] = _
      rw [mul_1_2,mul_2_2,mul_3_3]
      simp only [List.cons.injEq,and_true,iLLQ0,iLLQ1,iLLQ2,iLLQ3,iLLQ4] <;> and_intros <;> grind
  · refine lawT_5 (?_ : ∀ x ∈ _,Pt.Ok x) (by simp) h1 h2 ?_ (cnts2 o1 o2) h3 h4
    · intro x hx
      simp only [List.mem_cons,List.not_mem_nil,or_false] at hx
      rcases hx with rfl | rfl | rfl
      · exact o1
      · exact o3
      · exact o2
    · show mulL (mulL (mulL [1] [(1 - (p1 : Int)),(q1 : Int)]) [(2 + (c3 : Int)),((b3 : Int) - 2),(r3 : Int)]) [(1 - (p2 : Int)),(q2 : Int)] = _
      rw [mul_1_2,mul_2_3,mul_4_2]
      simp only [List.cons.injEq,and_true,iLLQ0,iLLQ1,iLLQ2,iLLQ3,iLLQ4] <;> and_intros <;> grind
  · refine lawT_5 (?_ : ∀ x ∈ _,Pt.Ok x) (by simp) h1 h2 ?_ (cnts2' o1 o2) h3 h4
    · intro x hx
      simp only [List.mem_cons,List.not_mem_nil,or_false] at hx
      rcases hx with rfl | rfl | rfl
      · exact o2
      · exact o1
      · exact o3
    · show mulL (mulL (mulL [1] [(1 - (p2 : Int)),(q2 : Int)]) [(1 - (p1 : Int)),(q1 : Int)]) [(2 + (c3 : Int)),((b3 : Int) - 2),(r3 : Int)] = _
      rw [mul_1_2,mul_2_2,mul_3_3]
      simp only [List.cons.injEq,and_true,iLLQ0,iLLQ1,iLLQ2,iLLQ3,iLLQ4] <;> and_intros <;> grind
  · refine lawT_5 (?_ : ∀ x ∈ _,Pt.Ok x) (by simp) h1 h2 ?_ (cnts2' o1 o2) h3 h4
    · intro x hx
      simp only [List.mem_cons,List.not_mem_nil,or_false] at hx
      rcases hx with rfl | rfl | rfl
      · exact o2
      · exact o3
      · exact o1
    · show mulL (mulL (mulL [1] [(1 - (p2 : Int)),(q2 : Int)]) [(2 + (c3 : Int)),((b3 : Int) - 2),(r3 : Int)]) [(1 - (p1 : Int)),(q1 : Int)] = _
      rw [mul_1_2,mul_2_3,mul_4_2]
      simp only [List.cons.injEq,and_true,iLLQ0,iLLQ1,iLLQ2,iLLQ3,iLLQ4] <;> and_intros <;> grind
  · refine lawT_5 (?_ : ∀ x ∈ _,Pt.Ok x) (by simp) h1 h2 ?_ (cnts2 o1 o2) h3 h4
    · intro x hx
      simp only [List.mem_cons,List.not_mem_nil,or_false] at hx
      rcases hx with rfl | rfl | rfl
      · exact o3
      · exact o1
      · exact o2
    · show mulL (mulL (mulL [1] [(2 + (c3 : Int)),((b3 : Int) - 2),(r3 : Int)]) [(1 - (p1 : Int)),(q1 : Int)]) [(1 - (p2 : Int)),(q2 : Int)] = _
      rw [mul_1_3,mul_3_2,mul_4_2]
      simp only [List.cons.injEq,and_true,iLLQ0,iLLQ1,iLLQ2,iLLQ3,iLLQ4] <;> and_intros <;> grind
  · refine lawT_5 (?_ : ∀ x ∈ _,Pt.Ok x) (by simp) h1 h2 ?_ (cnts2' o1 o2) h3 h4
    · intro x hx
      simp only [List.mem_cons,List.not_mem_nil,or_false] at hx
      rcases hx with rfl | rfl | rfl
      · exact o3
      · exact o2
      · exact o1
    · show mulL (mulL (mulL [1] [(2 + (c3 : Int)),((b3 : Int) - 2),(r3 : Int)]) [(1 - (p2 : Int)),(q2 : Int)]) [(1 - (p1 : Int)),(q1 : Int)] = _
      rw [mul_1_3,mul_3_2,mul_4_2]
      simp only [List.cons.injEq,and_true,iLLQ0,iLLQ1,iLLQ2,iLLQ3,iLLQ4] <;> and_intros <;> grind
end Mine
end
section
open PySem PySem.W PyProof.Rows
set_option exponentiation.threshold 10000
set_option maxRecDepth 100000
namespace Mine
noncomputable def an (x y : Bool) : Bool := Bool.rec false y x
theorem an_spec {x y : Bool} (h : an x y = true) : x = true ∧ y = true := rec_and h
noncomputable def lpP (k : Nat → Bool) : Bool := an (k (nat_lit 0)) (an (k (nat_lit 1)) (an (k (nat_lit 2)) (an (k (nat_lit 3)) (an (k (nat_lit 4)) (an (k (nat_lit 5)) (k (nat_lit 6)))))))
noncomputable def lpQ (k : Nat → Bool) : Bool := an (k (nat_lit 1)) (an (k (nat_lit 2)) (an (k (nat_lit 3)) (k (nat_lit 4))))
noncomputable def lpC (k : Nat → Bool) : Bool := an (k (nat_lit 0)) (an (k (nat_lit 1)) (an (k (nat_lit 2)) (k (nat_lit 3))))
noncomputable def lpB (k : Nat → Bool) : Bool := an (k (nat_lit 0)) (an (k (nat_lit 1)) (an (k (nat_lit 2)) (an (k (nat_lit 3)) (k (nat_lit 4)))))
theorem lpP_spec {k : Nat → Bool} (h : lpP k = true) {p : Nat} (hp : p < 7) : k p = true := by
  obtain ⟨h0,h⟩ := an_spec h
  obtain ⟨h1,h⟩ := an_spec h
  obtain ⟨h2,h⟩ := an_spec h
  obtain ⟨h3,h⟩ := an_spec h
  obtain ⟨h4,h⟩ := an_spec h
  obtain ⟨h5,h6⟩ := an_spec h
  match p,hp with
  | 0,_ => exact h0
  | 1,_ => exact h1
  | 2,_ => exact h2
  | 3,_ => exact h3
  | 4,_ => exact h4
  | 5,_ => exact h5
  | 6,_ => exact h6
theorem lpQ_spec {k : Nat → Bool} (h : lpQ k = true) {q : Nat} (h0 : 0 < q) (hq : q < 5) : k q = true := by
  obtain ⟨h1,h⟩ := an_spec h
  obtain ⟨h2,h⟩ := an_spec h
  obtain ⟨h3,h4⟩ := an_spec h
  match q,h0,hq with
  | 1,_,_ => exact h1
  | 2,_,_ => exact h2
  | 3,_,_ => exact h3
  | 4,_,_ => exact h4
theorem lpC_spec {k : Nat → Bool} (h : lpC k = true) {c : Nat} (hc : c < 4) : k c = true := by
  obtain ⟨h0,h⟩ := an_spec h
  obtain ⟨h1,h⟩ := an_spec h
  obtain ⟨h2,h3⟩ := an_spec h
  match c,hc with
  | 0,_ => exact h0
  | 1,_ => exact h1
  | 2,_ => exact h2
  | 3,_ => exact h3
theorem lpB_spec {k : Nat → Bool} (h : lpB k = true) {b : Nat} (hb : b < 5) : k b = true := by
  obtain ⟨h0,h⟩ := an_spec h
  obtain ⟨h1,h⟩ := an_spec h
  obtain ⟨h2,h⟩ := an_spec h
  obtain ⟨h3,h4⟩ := an_spec h
  match b,hb with
  | 0,_ => exact h0
  | 1,_ => exact h1
  | 2,_ => exact h2
  | 3,_ => exact h3
  | 4,_ => exact h4
noncomputable def ask (p q p' q' : Nat) (x : Bool) : Bool := Bool.rec true x (Nat.ble (Nat.add (Nat.mul (nat_lit 4) p) q) (Nat.add (Nat.mul (nat_lit 4) p') q'))
theorem ask_spec {p q p' q' : Nat} {x : Bool} (h : ask p q p' q' x = true) (hle : 4 * p + q ≤ 4 * p' + q') : x = true := by
  have e : Nat.ble (Nat.add (Nat.mul (nat_lit 4) p) q) (Nat.add (Nat.mul (nat_lit 4) p') q') = true := Nat.ble_eq_true_of_le hle
  unfold ask at h
  rw [e] at h
  exact h
noncomputable def oLLQ (W M H T p1 : Nat) : Bool := lpQ fun q1 => lpP fun p2 => lpQ fun q2 => ask p1 q1 p2 q2 (lpC fun c => lpB fun b => lpQ fun r => gLLQ W M H T p1 q1 p2 q2 c b r)
noncomputable def oLLL (W M H T p1 : Nat) : Bool := lpQ fun q1 => lpP fun p2 => lpQ fun q2 => lpP fun p3 => lpQ fun q3 => gLLL W M H T p1 q1 p2 q2 p3 q3
noncomputable def oQQ (W M H T c1 : Nat) : Bool := lpB fun b1 => lpQ fun r1 => lpC fun c2 => lpB fun b2 => lpQ fun r2 => ask (Nat.add (Nat.mul (nat_lit 5) c1) b1) r1 (Nat.add (Nat.mul (nat_lit 5) c2) b2) r2 (gQQ W M H T c1 b1 r1 c2 b2 r2)
noncomputable def oLQ (W M H T p : Nat) : Bool := lpQ fun q => lpC fun c => lpB fun b => lpQ fun r => gLQ W M H T p q c b r
noncomputable def oLL (W M H T : Nat) : Bool := lpP fun p1 => lpQ fun q1 => lpP fun p2 => lpQ fun q2 => gLL W M H T p1 q1 p2 q2
noncomputable def oL (W M H T : Nat) : Bool := lpP fun p => lpQ fun q => gL W M H T p q
noncomputable def oQ (W M H T : Nat) : Bool := lpC fun c => lpB fun b => lpQ fun r => gQ W M H T c b r
noncomputable def zLLQ (p : Nat) : Bool := oLLQ (nat_lit 13407807929942597099574024998205846127479365820592393377723561443721764030073546976801874298166903427690031858186486050853753882811946569946433649006084096) (nat_lit 13407807929942597099574024998205846127479365820592393377723561443721764030073546976801874298166903427690031858186486050853753882811946569946433649006084095) (nat_lit 6703903964971298549787012499102923063739682910296196688861780721860882015036773488400937149083451713845015929093243025426876941405973284973216824503042048) (nat_lit 45601260659496142839316936585727775904358641503023694057047214056456291632351771750122450183813391300134360131796023708504524560783779016357669048730561605877239795128610797144801888339487786854970001294340343619158016) p
noncomputable def zLLL (p : Nat) : Bool := oLLL (nat_lit 13407807929942597099574024998205846127479365820592393377723561443721764030073546976801874298166903427690031858186486050853753882811946569946433649006084096) (nat_lit 13407807929942597099574024998205846127479365820592393377723561443721764030073546976801874298166903427690031858186486050853753882811946569946433649006084095) (nat_lit 6703903964971298549787012499102923063739682910296196688861780721860882015036773488400937149083451713845015929093243025426876941405973284973216824503042048) (nat_lit 45601260659496142839316936585727775904358641503023694057047214056456291632351771750122450183813391300134360131796023708504524560783779016357669048730561605877239795128610797144801888339487786854970001294340343619158016) p
noncomputable def zQQ (c : Nat) : Bool := oQQ (nat_lit 13407807929942597099574024998205846127479365820592393377723561443721764030073546976801874298166903427690031858186486050853753882811946569946433649006084096) (nat_lit 13407807929942597099574024998205846127479365820592393377723561443721764030073546976801874298166903427690031858186486050853753882811946569946433649006084095) (nat_lit 6703903964971298549787012499102923063739682910296196688861780721860882015036773488400937149083451713845015929093243025426876941405973284973216824503042048) (nat_lit 45601260659496142839316936585727775904358641503023694057047214056456291632351771750122450183813391300134360131796023708504524560783779016357669048730561605877239795128610797144801888339487786854970001294340343619158016) c
noncomputable def zLQ (p : Nat) : Bool := oLQ (nat_lit 13407807929942597099574024998205846127479365820592393377723561443721764030073546976801874298166903427690031858186486050853753882811946569946433649006084096) (nat_lit 13407807929942597099574024998205846127479365820592393377723561443721764030073546976801874298166903427690031858186486050853753882811946569946433649006084095) (nat_lit 6703903964971298549787012499102923063739682910296196688861780721860882015036773488400937149083451713845015929093243025426876941405973284973216824503042048) (nat_lit 45601260659496142839316936585727775904358641503023694057047214056456291632351771750122450183813391300134360131796023708504524560783779016357669048730561605877239795128610797144801888339487786854970001294340343619158016) p
noncomputable def zLL : Bool := oLL (nat_lit 13407807929942597099574024998205846127479365820592393377723561443721764030073546976801874298166903427690031858186486050853753882811946569946433649006084096) (nat_lit 13407807929942597099574024998205846127479365820592393377723561443721764030073546976801874298166903427690031858186486050853753882811946569946433649006084095) (nat_lit 6703903964971298549787012499102923063739682910296196688861780721860882015036773488400937149083451713845015929093243025426876941405973284973216824503042048) (nat_lit 45601260659496142839316936585727775904358641503023694057047214056456291632351771750122450183813391300134360131796023708504524560783779016357669048730561605877239795128610797144801888339487786854970001294340343619158016) 
noncomputable def zL : Bool := oL (nat_lit 13407807929942597099574024998205846127479365820592393377723561443721764030073546976801874298166903427690031858186486050853753882811946569946433649006084096) (nat_lit 13407807929942597099574024998205846127479365820592393377723561443721764030073546976801874298166903427690031858186486050853753882811946569946433649006084095) (nat_lit 6703903964971298549787012499102923063739682910296196688861780721860882015036773488400937149083451713845015929093243025426876941405973284973216824503042048) (nat_lit 45601260659496142839316936585727775904358641503023694057047214056456291632351771750122450183813391300134360131796023708504524560783779016357669048730561605877239795128610797144801888339487786854970001294340343619158016) 
noncomputable def zQ : Bool := oQ (nat_lit 13407807929942597099574024998205846127479365820592393377723561443721764030073546976801874298166903427690031858186486050853753882811946569946433649006084096) (nat_lit 13407807929942597099574024998205846127479365820592393377723561443721764030073546976801874298166903427690031858186486050853753882811946569946433649006084095) (nat_lit 6703903964971298549787012499102923063739682910296196688861780721860882015036773488400937149083451713845015929093243025426876941405973284973216824503042048) (nat_lit 45601260659496142839316936585727775904358641503023694057047214056456291632351771750122450183813391300134360131796023708504524560783779016357669048730561605877239795128610797144801888339487786854970001294340343619158016) 
theorem mods : Mods 13407807929942597099574024998205846127479365820592393377723561443721764030073546976801874298166903427690031858186486050853753882811946569946433649006084096 13407807929942597099574024998205846127479365820592393377723561443721764030073546976801874298166903427690031858186486050853753882811946569946433649006084095 6703903964971298549787012499102923063739682910296196688861780721860882015036773488400937149083451713845015929093243025426876941405973284973216824503042048 := ⟨by decide +kernel,by decide +kernel,by decide +kernel⟩
end Mine
end
section
open PySem PySem.W PyProof.Rows
set_option maxRecDepth 100000
namespace Mine
theorem rL : zL = true := by decide +kernel
theorem rQ : zQ = true := by decide +kernel
theorem rLL : zLL = true := by decide +kernel
theorem rLQ_0 : zLQ 0 = true := by decide +kernel
theorem rLQ_1 : zLQ 1 = true := by decide +kernel
theorem rLQ_2 : zLQ 2 = true := by decide +kernel
theorem rLQ_3 : zLQ 3 = true := by decide +kernel
theorem rLQ_4 : zLQ 4 = true := by decide +kernel
theorem rLQ_5 : zLQ 5 = true := by decide +kernel
theorem rLQ_6 : zLQ 6 = true := by decide +kernel
theorem rQQ_0 : zQQ 0 = true := by decide +kernel
theorem rQQ_1 : zQQ 1 = true := by decide +kernel
theorem rQQ_2 : zQQ 2 = true := by decide +kernel
theorem rQQ_3 : zQQ 3 = true := by decide +kernel
theorem rLLL_0 : zLLL 0 = true := by decide +kernel
theorem rLLL_1 : zLLL 1 = true := by decide +kernel
theorem rLLL_2 : zLLL 2 = true := by decide +kernel
theorem rLLL_3 : zLLL 3 = true := by decide +kernel
theorem rLLL_4 : zLLL 4 = true := by decide +kernel
theorem rLLL_5 : zLLL 5 = true := by decide +kernel
theorem rLLL_6 : zLLL 6 = true := by decide +kernel
theorem rLLQ_0 : zLLQ 0 = true := by decide +kernel
theorem rLLQ_1 : zLLQ 1 = true := by decide +kernel
theorem rLLQ_2 : zLLQ 2 = true := by decide +kernel
theorem rLLQ_3 : zLLQ 3 = true := by decide +kernel
theorem rLLQ_4 : zLLQ 4 = true := by decide +kernel
theorem rLLQ_5 : zLLQ 5 = true := by decide +kernel
theorem rLLQ_6 : zLLQ 6 = true := by decide +kernel
theorem upto7 {f : Nat → Bool} (h0 : f 0 = true) (h1 : f 1 = true) (h2 : f 2 = true) (h3 : f 3 = true) (h4 : f 4 = true) (h5 : f 5 = true) (h6 : f 6 = true) {p : Nat} (hp : p < 7) : f p = true := by
  match p,hp with
  | 0,_ => exact h0
  | 1,_ => exact h1
  | 2,_ => exact h2
  | 3,_ => exact h3
  | 4,_ => exact h4
  | 5,_ => exact h5
  | 6,_ => exact h6
theorem upto4 {f : Nat → Bool} (h0 : f 0 = true) (h1 : f 1 = true) (h2 : f 2 = true) (h3 : f 3 = true) {p : Nat} (hp : p < 4) : f p = true := by
  match p,hp with
  | 0,_ => exact h0
  | 1,_ => exact h1
  | 2,_ => exact h2
  | 3,_ => exact h3
theorem aQQ {c : Nat} (hc : c < 4) : zQQ c = true := upto4 rQQ_0 rQQ_1 rQQ_2 rQQ_3 hc
theorem aLQ {p : Nat} (hp : p < 7) : zLQ p = true := upto7 rLQ_0 rLQ_1 rLQ_2 rLQ_3 rLQ_4 rLQ_5 rLQ_6 hp
theorem aLLL {p : Nat} (hp : p < 7) : zLLL p = true := upto7 rLLL_0 rLLL_1 rLLL_2 rLLL_3 rLLL_4 rLLL_5 rLLL_6 hp
theorem aLLQ {p : Nat} (hp : p < 7) : zLLQ p = true := upto7 rLLQ_0 rLLQ_1 rLLQ_2 rLLQ_3 rLLQ_4 rLLQ_5 rLLQ_6 hp
end Mine
end
section
open PySem PySem.W PyProof.Rows
set_option maxRecDepth 100000
namespace Mine
section
variable {W M H T : Nat}
theorem oL_spec (h : oL W M H T = true) {p q : Nat} (o : (Pt.ln p q).Ok) : gL W M H T p q = true := by
  unfold oL at h
  have h := lpP_spec h o.1
  exact lpQ_spec h o.2.1 o.2.2
theorem oQ_spec (h : oQ W M H T = true) {c b r : Nat} (o : (Pt.qd c b r).Ok) : gQ W M H T c b r = true := by
  unfold oQ at h
  have h := lpC_spec h o.1
  have h := lpB_spec h o.2.1
  exact lpQ_spec h o.2.2.1 o.2.2.2
theorem oLL_spec (h : oLL W M H T = true) {p q p' q' : Nat} (o : (Pt.ln p q).Ok) (o' : (Pt.ln p' q').Ok) : gLL W M H T p q p' q' = true := by
  unfold oLL at h
  have h := lpP_spec h o.1
  have h := lpQ_spec h o.2.1 o.2.2
  have h := lpP_spec h o'.1
  exact lpQ_spec h o'.2.1 o'.2.2
theorem oLQ_spec {p : Nat} (h : oLQ W M H T p = true) {q c b r : Nat} (o : (Pt.ln p q).Ok) (o' : (Pt.qd c b r).Ok) : gLQ W M H T p q c b r = true := by
  unfold oLQ at h
  have h := lpQ_spec h o.2.1 o.2.2
  have h := lpC_spec h o'.1
  have h := lpB_spec h o'.2.1
  exact lpQ_spec h o'.2.2.1 o'.2.2.2
theorem oQQ_spec {c : Nat} (h : oQQ W M H T c = true) {b q c' b' q' : Nat} (o : (Pt.qd c b q).Ok) (o' : (Pt.qd c' b' q').Ok) (hle : 4 * (5 * c + b) + q ≤ 4 * (5 * c' + b') + q') : gQQ W M H T c b q c' b' q' = true := by
  unfold oQQ at h
  have h := lpB_spec h o.2.1
  have h := lpQ_spec h o.2.2.1 o.2.2.2
  have h := lpC_spec h o'.1
  have h := lpB_spec h o'.2.1
  have h := lpQ_spec h o'.2.2.1 o'.2.2.2
  exact ask_spec h hle
theorem oLLL_spec {p : Nat} (h : oLLL W M H T p = true) {q p' q' p'' q'' : Nat} (o : (Pt.ln p q).Ok) (o' : (Pt.ln p' q').Ok) (o'' : (Pt.ln p'' q'').Ok) : gLLL W M H T p q p' q' p'' q'' = true := by
  unfold oLLL at h
  have h := lpQ_spec h o.2.1 o.2.2
  have h := lpP_spec h o'.1
  have h := lpQ_spec h o'.2.1 o'.2.2
  have h := lpP_spec h o''.1
  exact lpQ_spec h o''.2.1 o''.2.2
theorem oLLQ_spec {p : Nat} (h : oLLQ W M H T p = true) {q p' q' c b r : Nat} (o : (Pt.ln p q).Ok) (o' : (Pt.ln p' q').Ok) (o'' : (Pt.qd c b r).Ok) (hle : 4 * p + q ≤ 4 * p' + q') : gLLQ W M H T p q p' q' c b r = true := by
  unfold oLLQ at h
  have h := lpQ_spec h o.2.1 o.2.2
  have h := lpP_spec h o'.1
  have h := lpQ_spec h o'.2.1 o'.2.2
  have h := ask_spec h hle
  have h := lpC_spec h o''.1
  have h := lpB_spec h o''.2.1
  exact lpQ_spec h o''.2.2.1 o''.2.2.2
end
theorem good {pts : List Pt} (h : Drawn pts) : LawT pts := by
  refine drawn_cases (P := LawT) ?_ ?_ ?_ ?_ ?_ ?_ ?_ h
  · intro p q o
    exact gL_spec mods o (oL_spec rL o)
  · intro c b q o
    exact gQ_spec mods o (oQ_spec rQ o)
  · intro p q p' q' o o'
    exact gLL_spec mods o o' (oLL_spec rLL o o')
  · intro p q c b r o o'
    exact gLQ_spec mods o o' (oLQ_spec (aLQ o.1) o o')
  · intro c b q c' b' q' o o'
    by_cases hle : 4 * (5 * c + b) + q ≤ 4 * (5 * c' + b') + q'
    · exact (gQQ_spec mods o o' (oQQ_spec (aQQ o.1) o o' hle)).1
    · exact (gQQ_spec mods o' o (oQQ_spec (aQQ o'.1) o' o (by lia))).2
  · intro p q p' q' p'' q'' o o' o''
    exact gLLL_spec mods o o' o'' (oLLL_spec (aLLL o.1) o o' o'')
  · intro p q p' q' c b r o o' o''
    by_cases hle : 4 * p + q ≤ 4 * p' + q'
    · have g := gLLQ_spec mods o o' o'' (oLLQ_spec (aLLQ o.1) o o' o'' hle)
      exact ⟨g.1,g.2.1,g.2.2.2.2.1⟩
    · have g := gLLQ_spec mods o' o o'' (oLLQ_spec (aLLQ o'.1) o' o o'' (by lia))
      exact ⟨g.2.2.1,g.2.2.2.1,g.2.2.2.2.2⟩
theorem law_plain (l : List Int) (hl : l.length ≤ 63) (p : PySem.Addr) : ∃ pv c',partsD p [.list ((l.take 13).map .int),.int 0] = some (pv,c') ∧ lawOf pv = some (.bool true) := by
  obtain ⟨pts,c',hd,e⟩ := parts_ok l hl p
  have g := good hd
  unfold LawT at g
  rw [List.map_map] at g
  exact ⟨_,c',e,g⟩
end Mine
end
section
open PySem PySem.W PyProof.Rows
set_option maxRecDepth 100000
set_option maxHeartbeats 8000000
namespace Mine
noncomputable def defIdx : List Nat := (List.range 49).filter fun i => match stAt i with
  | .FunctionDef .. => true
  | _ => false
theorem recs_eq : recsOf vw = defIdx.map recAt := by kernel_rfl
theorem idx_eq : defIdx = [1,2,4,5,6,7,8,9,10,11,12,13,14,15,16,17,21,22,23,24,26,27,28,30,31,32,33,34,35,36,37,38,39,40,42,43,44,45,46,47,48] := by kernel_rfl
theorem rec_mem {i : Nat} (h : i ∈ [1,2,4,5,6,7,8,9,10,11,12,13,14,15,16,17,21,22,23,24,26,27,28,30,31,32,33,34,35,36,37,38,39,40,42,43,44,45,46,47,48]) : recAt i ∈ recsOf vw := by
  rw [recs_eq,idx_eq]
  exact List.mem_map.mpr ⟨i,h,rfl⟩
section
variable {w : World} {prog : Program} {h : Heap} {mg mb : Str → Option Value} {loose : List Str} {mean : ExcName → Option Value}
theorem defs (T : Top vw loose mean mg mb h) : Defs ⟨prog,w,mg,mb,h⟩ where
  D_gcd := def_of T (rec_mem (by decide)) (by kernel_rfl) (by kernel_rfl) (by kernel_rfl) (by kernel_rfl)
  D_gcd_all := def_of T (rec_mem (by decide)) (by kernel_rfl) (by kernel_rfl) (by kernel_rfl) (by kernel_rfl)
  D_ztrim := def_of T (rec_mem (by decide)) (by kernel_rfl) (by kernel_rfl) (by kernel_rfl) (by kernel_rfl)
  D_zdegree := def_of T (rec_mem (by decide)) (by kernel_rfl) (by kernel_rfl) (by kernel_rfl) (by kernel_rfl)
  D_zlead := def_of T (rec_mem (by decide)) (by kernel_rfl) (by kernel_rfl) (by kernel_rfl) (by kernel_rfl)
  D_zadd := def_of T (rec_mem (by decide)) (by kernel_rfl) (by kernel_rfl) (by kernel_rfl) (by kernel_rfl)
  D_zneg := def_of T (rec_mem (by decide)) (by kernel_rfl) (by kernel_rfl) (by kernel_rfl) (by kernel_rfl)
  D_zsub := def_of T (rec_mem (by decide)) (by kernel_rfl) (by kernel_rfl) (by kernel_rfl) (by kernel_rfl)
  D_zscale := def_of T (rec_mem (by decide)) (by kernel_rfl) (by kernel_rfl) (by kernel_rfl) (by kernel_rfl)
  D_zraise := def_of T (rec_mem (by decide)) (by kernel_rfl) (by kernel_rfl) (by kernel_rfl) (by kernel_rfl)
  D_zmul := def_of T (rec_mem (by decide)) (by kernel_rfl) (by kernel_rfl) (by kernel_rfl) (by kernel_rfl)
  D_zcontent := def_of T (rec_mem (by decide)) (by kernel_rfl) (by kernel_rfl) (by kernel_rfl) (by kernel_rfl)
  D_zdivided := def_of T (rec_mem (by decide)) (by kernel_rfl) (by kernel_rfl) (by kernel_rfl) (by kernel_rfl)
  D_zprimitive := def_of T (rec_mem (by decide)) (by kernel_rfl) (by kernel_rfl) (by kernel_rfl) (by kernel_rfl)
  D_zderive := def_of T (rec_mem (by decide)) (by kernel_rfl) (by kernel_rfl) (by kernel_rfl) (by kernel_rfl)
  D_zshift := def_of T (rec_mem (by decide)) (by kernel_rfl) (by kernel_rfl) (by kernel_rfl) (by kernel_rfl)
  D_check_bottom := def_of T (rec_mem (by decide)) (by kernel_rfl) (by kernel_rfl) (by kernel_rfl) (by kernel_rfl)
  D_zexact := def_of T (rec_mem (by decide)) (by kernel_rfl) (by kernel_rfl) (by kernel_rfl) (by kernel_rfl)
  D_pseudo := def_of T (rec_mem (by decide)) (by kernel_rfl) (by kernel_rfl) (by kernel_rfl) (by kernel_rfl)
  D_zpseudo_rest := def_of T (rec_mem (by decide)) (by kernel_rfl) (by kernel_rfl) (by kernel_rfl) (by kernel_rfl)
  D_next_height := def_of T (rec_mem (by decide)) (by kernel_rfl) (by kernel_rfl) (by kernel_rfl) (by kernel_rfl)
  D_subresultants := def_of T (rec_mem (by decide)) (by kernel_rfl) (by kernel_rfl) (by kernel_rfl) (by kernel_rfl)
  D_zgcd := def_of T (rec_mem (by decide)) (by kernel_rfl) (by kernel_rfl) (by kernel_rfl) (by kernel_rfl)
  D_sign_of := def_of T (rec_mem (by decide)) (by kernel_rfl) (by kernel_rfl) (by kernel_rfl) (by kernel_rfl)
  D_value_sign := def_of T (rec_mem (by decide)) (by kernel_rfl) (by kernel_rfl) (by kernel_rfl) (by kernel_rfl)
  D_end_sign := def_of T (rec_mem (by decide)) (by kernel_rfl) (by kernel_rfl) (by kernel_rfl) (by kernel_rfl)
  D_sign_at := def_of T (rec_mem (by decide)) (by kernel_rfl) (by kernel_rfl) (by kernel_rfl) (by kernel_rfl)
  D_simple_part := def_of T (rec_mem (by decide)) (by kernel_rfl) (by kernel_rfl) (by kernel_rfl) (by kernel_rfl)
  D_lessened := def_of T (rec_mem (by decide)) (by kernel_rfl) (by kernel_rfl) (by kernel_rfl) (by kernel_rfl)
  D_next_of_row := def_of T (rec_mem (by decide)) (by kernel_rfl) (by kernel_rfl) (by kernel_rfl) (by kernel_rfl)
  D_sturm_row := def_of T (rec_mem (by decide)) (by kernel_rfl) (by kernel_rfl) (by kernel_rfl) (by kernel_rfl)
  D_changes_at := def_of T (rec_mem (by decide)) (by kernel_rfl) (by kernel_rfl) (by kernel_rfl) (by kernel_rfl)
  D_count_by_row := def_of T (rec_mem (by decide)) (by kernel_rfl) (by kernel_rfl) (by kernel_rfl) (by kernel_rfl)
  D_count_roots := def_of T (rec_mem (by decide)) (by kernel_rfl) (by kernel_rfl) (by kernel_rfl) (by kernel_rfl)
  D_law_choices := def_of T (rec_mem (by decide)) (by kernel_rfl) (by kernel_rfl) (by kernel_rfl) (by kernel_rfl)
  D_law_row := def_of T (rec_mem (by decide)) (by kernel_rfl) (by kernel_rfl) (by kernel_rfl) (by kernel_rfl)
  D_law_changes := def_of T (rec_mem (by decide)) (by kernel_rfl) (by kernel_rfl) (by kernel_rfl) (by kernel_rfl)
  D_law_between := def_of T (rec_mem (by decide)) (by kernel_rfl) (by kernel_rfl) (by kernel_rfl) (by kernel_rfl)
  D_law_draw := def_of T (rec_mem (by decide)) (by kernel_rfl) (by kernel_rfl) (by kernel_rfl) (by kernel_rfl)
  D_law_parts := def_of T (rec_mem (by decide)) (by kernel_rfl) (by kernel_rfl) (by kernel_rfl) (by kernel_rfl)
  D_law := def_of T (rec_mem (by decide)) (by kernel_rfl) (by kernel_rfl) (by kernel_rfl) (by kernel_rfl)
theorem free_of (T : Top vw (looseW vw []) mean mg mb h) {x : Str} (h1 : (startupNames.contains x || ((looseW vw []).contains x || (((recsOf vw).map (·.name)).contains x || (((litsOf vw).map (·.1)).contains x || ((clssOf vw (looseW vw [])).map (·.name)).contains x)))) = false) : mg x = none := by
  simp only [Bool.or_eq_false_iff] at h1
  obtain ⟨a,b,c,d,e⟩ := h1
  have k : ∀ {l : List Str},l.contains x = false → x ∉ l := fun hl hm => by
    rw [List.contains_iff_mem.mpr hm] at hl; cases hl
  exact T.free x (k a) (k b) (k c) (k d) (k e)
theorem miss (T : Top vw (looseW vw []) mean mg mb h) : Miss ⟨prog,w,mg,mb,h⟩ where
  abs := free_of T (by kernel_rfl)
  len := free_of T (by kernel_rfl)
  max := free_of T (by kernel_rfl)
  min := free_of T (by kernel_rfl)
  list := free_of T (by kernel_rfl)
  range := free_of T (by kernel_rfl)
  enumerate := free_of T (by kernel_rfl)
  reversed := free_of T (by kernel_rfl)
  isinstance := free_of T (by kernel_rfl)
  str := free_of T (by kernel_rfl)
  zip := free_of T (by kernel_rfl)
  sum := free_of T (by kernel_rfl)
  set := free_of T (by kernel_rfl)
  int := free_of T (by kernel_rfl)
end
end Mine
end
section
open PySem PySem.W PyProof.Rows
set_option maxRecDepth 100000
set_option maxHeartbeats 8000000
namespace Mine
theorem plain_of_well {P : Params} {h : Heap} {q : Addr} {vs : List Value} {xs : List WData} (w : Well P h (.ref q) (.list xs)) (hl : h.IsList q vs.toArray) : h.PlainList q (List.toArray vs) := by
  cases w with
  | list e _ =>
    obtain ⟨o,ho,hc,n,hd⟩ := hl
    rw [e] at ho
    cases ho
    cases hd
    exact ⟨_,e⟩
noncomputable def LawTrue : Prop := ∀ (l : List Int),l.length ≤ 63 → ∀ p,∃ pv c',partsD p [.list ((l.take 13).map .int),.int 0] = some (pv,c') ∧ lawOf pv = some (.bool true)
theorem room_law (env : Env) (ok : EnvOk env) : Room (callerA.deeper env) 9 := ⟨rfl,(show callerA.depth + 1 + 9 + 150 < recursionLimit by decide),(show _ + 20 * 9 + 100 < cLine from Nat.le_of_ble_eq_true rfl),⟨env,[],rfl,ok⟩⟩
theorem walk_of (LT : LawTrue) : PySem.Challenge.rw_xm0092_01.Holds := by
  refine holds_law law_said fun said => ?_
  refine holds_open (q := vw) (loose := []) (Xt := fun s => xlAt vw [] s && recOk (RowW.records PySem.Challenge.rw_xm0092_01.row.toRowW) s) (XP := XL vw []) (Yf := Hook.none.obs) (Ya := Hook.none.val) (YP := Hook.none.says) (N := 3182) left Hook.none.of Hook.none.keeps
    (fun s e => xl_of s (Bool.and_eq_true_iff.mp e).1) XL.keeps (by rfl) (by rfl) (by rfl) (fun s e => recFacts_of (Bool.and_eq_true_iff.mp e).2) (by rfl) said (by decide +kernel) ⟨rfl,rfl,rfl,rfl,rfl,by decide +kernel⟩ ?hw ?hc
  case hw => w_witness2
  intro w s₀ s₁ mg mb G Y fa o pm cd doc dV kV ho hd hcd hD hmg hg args vals as hpre hlay hrd hwl hlo
  refine Ground.open G ?_
  intro T B D TE TW
  wrow_args hpre hlay hrd hwl hlo
  rename_i l hs hlay0 hL1 hr1 hl2 as1 as2 q vs as3 hL ra w1 r0 hI hr hcond hcond2
  refine enter_call ?_
  refine codeAny_mono ?_ (fun _ _ g => GoodW.toG g)
  have M := miss (w := w) (prog := PySem.Challenge.rw_xm0092_01.row.prog) T
  have DD := defs (w := w) (prog := PySem.Challenge.rw_xm0092_01.row.prog) T
  have PGx : PG ⟨PySem.Challenge.rw_xm0092_01.row.prog,w,mg,mb,s₁.heap⟩ s₁.heap := ⟨⟨T.g,T.b,T.nolimit,T.seer (by kernel_rfl),T.builtins,rfl⟩,fun _ _ e => e⟩
  have pl := plain_of_well w1 hL
  have hl63 : l.length ≤ 63 := by lia
  have hlM : l.length ≤ lenMax := Nat.le_trans hl63 (by decide)
  have cont : ∀ s',(∃ h tk,s' = { s₁ with heap := h,toks := tk }) → (∀ b o,s₁.heap.get? b = some o → s'.heap.get? b = some o) →
      GoodW PySem.Challenge.rw_xm0092_01.row.claim (classAt s₀.heap) (ExcName.means s₀.heap) [ofPy (PyData.list (List.map PyData.int l))] s₁ (.ok (.ret (.bool true))) s' := fun s' same keep => by
    obtain ⟨h',tk,rfl⟩ := same
    exact ⟨.inl ⟨.bool true,.bool true,[],rfl,fun _ => rfl,ReadsW.bool _,by kernel_rfl,fun _ => ⟨List.nodup_nil,fun _ q => nomatch q⟩⟩,keep,rfl,hg⟩
  obtain ⟨a,ha,hc⟩ := law_all M DD (A := callerA) (s := s₁) (by decide) room_law PGx pl hI hlM (LT l hl63) cont
  have e : fa = a := by
    have := hmg.symm.trans ha
    cases this; rfl
  subst e
  exact hc
end Mine
end
theorem PySem.Challenge.cw_xm0092_01_holds : PySem.Challenge.rw_xm0092_01.Holds :=
  Mine.walk_of Mine.law_plain
