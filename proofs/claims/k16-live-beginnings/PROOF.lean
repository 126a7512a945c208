import PyProof.Rows.All
import Wide.All
import OpenK.AllK
import Wide.FinOn
import HandS.ForMost
import HandS.ForExc
import HandS.ExcInit
import HandS.TryMany
import HandS.TupAny
import HandS.IsInst
import HandS.Deep
import HandS.HeadEnd
import HandS.HeadHook1
import HandS.HeadHook2
import HandS.Style
import KE.SortKeyHeap
import HandS.SortKw
import KE.KStateDown
import HandS.Head0
import HandS.Head1
import HandS.Head2
import PySem.Challenge.RW_skewread_k16_live_beginnings
set_option Elab.async false
set_option linter.all false
set_option maxRecDepth 100000
set_option maxHeartbeats 0
namespace VS
inductive D where
  | non
  | bl (b : Bool)
  | int (i : Int)
  | str (s : List Nat)
  | tup (ds : List D)
  | lst (ds : List D)
  | scr (ns : List Int)
  | dct (t : Bool) (ks : List (D × D))
  | ins (c : Nat) (fs : List (Nat × D))
inductive O where
  | val (d : D)
  | lst (os : List O)
  | tup (os : List O)
  | dct (t : Bool) (ks : List (D × O))
  | ins (c : Nat) (fs : List (Nat × O))
mutual
def O.data : O → D
  | .val d => d
  | .lst os => .lst (datas os)
  | .tup os => .tup (datas os)
  | .dct t ks => .dct t (dataK ks)
  | .ins c fs => .ins c (dataF fs)
def datas : List O → List D
  | [] => []
  | o :: os => o.data :: datas os
def dataK : List (D × O) → List (D × D)
  | [] => []
  | (d, o) :: os => (d, o.data) :: dataK os
def dataF : List (Nat × O) → List (Nat × D)
  | [] => []
  | (d, o) :: os => (d, o.data) :: dataF os
end
mutual
def D.imm : D → Bool
  | .tup ds => imms ds
  | .lst _ => false
  | .scr _ => false
  | .dct _ _ => false
  | .ins _ _ => false
  | _ => true
def imms : List D → Bool
  | [] => true
  | d :: ds => d.imm && imms ds
end
mutual
def O.clean : O → Bool
  | .val d => d.imm
  | .lst os => cleans os
  | .tup os => cleans os
  | .dct _ ks => cleanK ks
  | .ins _ fs => cleanF fs
def cleans : List O → Bool
  | [] => true
  | o :: os => o.clean && cleans os
def cleanK : List (D × O) → Bool
  | [] => true
  | (_, o) :: os => o.clean && cleanK os
def cleanF : List (Nat × O) → Bool
  | [] => true
  | (_, o) :: os => o.clean && cleanF os
end
inductive Cell where
  | no
  | loc (o : O)
  | par (o : O)
abbrev VEnv := List Cell
structure Exc where
  c : Nat
  fs : List (Nat × D)
inductive Res (α : Type) where
  | ok (a : α) (env : VEnv)
  | ex (e : Exc) (env : VEnv)
abbrev M (α : Type) := VEnv → Option (Res α)
def M.bind {α β : Type} (m : M α) (k : α → M β) : M β := fun env => match m env with
  | some (.ok a env') => k a env'
  | some (.ex e env') => some (.ex e env')
  | none => none
def M.ret {α : Type} (a : α) : M α := fun env => some (.ok a env)
inductive R where
  | o (x : O)
  | b (i : Nat)
abbrev EV := M R
def VEnv.at (env : VEnv) (i : Nat) : Option O := match env[i]? with
  | some (.loc o) => some o
  | some (.par o) => some o
  | _ => none
def R.own (r : R) (env : VEnv) : Option O := match r with
  | .o x => some x
  | .b i => env.at i
def R.data (r : R) (env : VEnv) : Option D := (r.own env).map O.data
end VS
namespace VS
def eArgs : List EV → M (List R)
  | [] => M.ret []
  | a :: as => M.bind a fun r => M.bind (eArgs as) fun rs => M.ret (r :: rs)
def eOp (g : List R → VEnv → Option (R × VEnv)) (m : M (List R)) : EV := fun env => match m env with
  | some (.ok rs e) => (g rs e).map fun p => .ok p.1 p.2
  | some (.ex e env') => some (.ex e env')
  | none => none
abbrev eOp1 (g : List R → VEnv → Option (R × VEnv)) (a : EV) : EV := eOp g (eArgs [a])
abbrev eOp2 (g : List R → VEnv → Option (R × VEnv)) (a b : EV) : EV := eOp g (eArgs [a, b])
def eVar (i : Nat) : EV := fun env => match env.at i with
  | some (.val d) => some (.ok (.o (.val d)) env)
  | some _ => some (.ok (.b i) env)
  | none => none
def eC (d : D) : EV := M.ret (.o (.val d))
def opS (f : List D → Option D) : List R → VEnv → Option (R × VEnv) := fun rs env => ((rs.mapM fun (r : R) => r.data env).bind f).map fun d => (.o (.val d), env)
end VS
namespace VS
def VEnv.put (env : VEnv) (i : Nat) (o : O) : VEnv := match env[i]? with
  | some (.par _) => env.set i (.par o)
  | _ => env.set i (.loc o)
def R.settle (r : R) (env : VEnv) : Option (O × VEnv) := match r with
  | .o x => some (x, env)
  | .b i => match env[i]? with
    | some (.loc y) => some (.val y.data, env.set i (.loc (.val y.data)))
    | _ => none
def settles : List R → VEnv → Option (List O × VEnv)
  | [], env => some ([], env)
  | r :: rs, env => match r.settle env with
    | some (o, e1) => match settles rs e1 with
      | some (os, e2) => some (o :: os, e2)
      | none => none
    | none => none
def maxLen : Nat := 16000000
def opLst : List R → VEnv → Option (R × VEnv) := fun rs env => if rs.length ≤ maxLen then (settles rs env).map fun p => (.o (.lst p.1), p.2) else none
def vals : List O → Option (List D)
  | [] => some []
  | .val d :: os => (vals os).map (d :: ·)
  | _ :: _ => none
def mkTup (os : List O) : O := match vals os with
  | some ds => .val (.tup ds)
  | none => .tup os
def opTup : List R → VEnv → Option (R × VEnv) := fun rs env => if rs.length ≤ maxLen then (settles rs env).map fun p => (.o (mkTup p.1), p.2) else none
end VS
namespace VS
def M.fail {α : Type} : M α := fun _ => none
mutual
def D.canE : D → Bool
  | .non => true
  | .bl _ => true
  | .int _ => true
  | .str s => s.all (· < 0x110000)
  | .tup ds => canEs ds
  | .lst ds => canEs ds
  | _ => false
def canEs : List D → Bool
  | [] => true
  | d :: ds => d.canE && canEs ds
end
mutual
def D.dep : D → Nat
  | .tup ds => deps ds + 1
  | .lst ds => deps ds + 1
  | _ => 0
def deps : List D → Nat
  | [] => 0
  | d :: ds => max d.dep (deps ds)
end
def b2i (b : Bool) : Int := if b then 1 else 0
mutual
def eqD : D → D → Bool
  | .non, .non => true
  | .bl a, .bl b => a == b
  | .bl a, .int j => b2i a == j
  | .int i, .bl b => i == b2i b
  | .int i, .int j => i == j
  | .str x, .str y => x == y
  | .lst xs, .lst ys => eqDs xs ys
  | .tup xs, .tup ys => eqDs xs ys
  | _, _ => false
def eqDs : List D → List D → Bool
  | [], [] => true
  | x :: xs, y :: ys => eqD x y && eqDs xs ys
  | _, _ => false
end
def okE (d : D) : Bool := d.canE && decide (d.dep ≤ 60)
def fEq : List D → Option D
  | [x, y] => if okE x && okE y then some (.bl (eqD x y)) else none
  | _ => none
def fNe : List D → Option D
  | [x, y] => if okE x && okE y then some (.bl (!eqD x y)) else none
  | _ => none
def D.isN : D → Bool
  | .non => true
  | _ => false
def fIs : List D → Option D
  | [x, .non] => some (.bl x.isN)
  | _ => none
def fIsNot : List D → Option D
  | [x, .non] => some (.bl (!x.isN))
  | _ => none
def fAdd : List D → Option D
  | [.int i, .int j] => some (.int (i + j))
  | [.str a, .str b] => if a.length + b.length ≤ maxLen then some (.str (a ++ b)) else none
  | _ => none
def fSub : List D → Option D
  | [.int i, .int j] => some (.int (i - j))
  | _ => none
def small64 (i : Int) : Bool := decide (-(2 ^ 64) < i ∧ i < 2 ^ 64)
def fMul : List D → Option D
  | [.int i, .int j] => if small64 i || small64 j then some (.int (i * j)) else none
  | _ => none
def fDiv : List D → Option D
  | [.int i, .int j] => if j ≠ 0 ∧ j.natAbs < 1073741824 then some (.int (i.fdiv j)) else none
  | _ => none
def fMod : List D → Option D
  | [.int i, .int j] => if j ≠ 0 then some (.int (i.fmod j)) else none
  | _ => none
def fPow : List D → Option D
  | [.int i, .int j] => if 0 ≤ j ∧ j ≤ 1000000 ∧ i.natAbs < 2 ^ 64 then some (.int (i ^ j.toNat)) else none
  | _ => none
def fNeg : List D → Option D
  | [.int i] => some (.int (-i))
  | _ => none
def fCmp (p : Int → Int → Bool) : List D → Option D
  | [.int i, .int j] => some (.bl (p i j))
  | _ => none
def fLt := fCmp fun i j => decide (i < j)
def fLe := fCmp fun i j => decide (i ≤ j)
def fGt := fCmp fun i j => decide (j < i)
def fGe := fCmp fun i j => decide (j ≤ i)
def fAbs : List D → Option D
  | [.int i] => some (.int (if i < 0 then -i else i))
  | _ => none
def fMax2 : List D → Option D
  | [.int i, .int j] => some (.int (if j > i then j else i))
  | _ => none
def fMin2 : List D → Option D
  | [.int i, .int j] => some (.int (if j < i then j else i))
  | _ => none
def fInt : List D → Option D
  | [.int i] => some (.int i)
  | [.bl b] => some (.int (if b = true then 1 else 0))
  | _ => none
def fLen : List D → Option D
  | [.lst ds] => some (.int (ds.length : Int))
  | [.tup ds] => some (.int (ds.length : Int))
  | [.scr ns] => some (.int (ns.length : Int))
  | [.str s] => if s.length ≤ maxLen then some (.int (s.length : Int)) else none
  | _ => none
def allBl : List D → Option (List Bool)
  | [] => some []
  | .bl b :: ds => (allBl ds).map (b :: ·)
  | _ :: _ => none
def allInt : List D → Option (List Int)
  | [] => some []
  | .int b :: ds => (allInt ds).map (b :: ·)
  | _ :: _ => none
def allStr : List D → Option (List (List Nat))
  | [] => some []
  | .str b :: ds => (allStr ds).map (b :: ·)
  | _ :: _ => none
def fAny : List D → Option D
  | [.lst ds] => (allBl ds).map fun bs => .bl (bs.any id)
  | _ => none
def fAll : List D → Option D
  | [.lst ds] => (allBl ds).map fun bs => .bl (bs.all id)
  | _ => none
def fSum : List D → Option D
  | [.lst ds] => (allInt ds).map fun bs => .int bs.sum
  | _ => none
inductive Ty where
  | int | bool | str | list | tuple
deriving DecidableEq
def isT : D → Ty → Option Bool
  | .non, _ => some false
  | .bl _, t => some (t == .bool || t == .int)
  | .int _, t => some (t == .int)
  | .str _, t => some (t == .str)
  | .lst _, t => some (t == .list)
  | .scr _, _ => none
  | .tup _, t => some (t == .tuple)
  | .dct false _, _ => some false
  | .dct true _, _ => none
  | .ins _ _, _ => none
def fIsT (t : Ty) : List D → Option D
  | [d] => (isT d t).map .bl
  | _ => none
def R.items (r : R) (env : VEnv) : Option (Bool × List D) := match r.own env with
  | some (.val (.lst ds)) => some (true, ds)
  | some (.val (.tup ds)) => some (false, ds)
  | some (.lst os) => (vals os).map (true, ·)
  | some (.tup os) => (vals os).map (false, ·)
  | _ => none
def oLst (ds : List D) : O := .lst (ds.map .val)
def opCat : List R → VEnv → Option (R × VEnv)
  | [r1, r2], env => match r1.items env, r2.items env with
    | some (true, xs), some (true, ys) => if xs.length + ys.length ≤ maxLen then some (.o (oLst (xs ++ ys)), env) else none
    | some (false, xs), some (false, ys) => if xs.length + ys.length ≤ maxLen then some (.o (.val (.tup (xs ++ ys))), env) else none
    | _, _ => none
  | _, _ => none
def opRep : List R → VEnv → Option (R × VEnv)
  | [r1, r2], env => match r1.items env, r2.data env with
    | some (true, xs), some (.int k) => if -(2 ^ 63) ≤ k ∧ k < 2 ^ 63 ∧ xs.length * k.toNat ≤ maxLen then some (.o (oLst (List.replicate k.toNat xs).flatten), env) else none
    | _, _ => none
  | _, _ => none
def ixN' (n : Nat) (i : Int) : Option Nat := if 0 ≤ i then (if i < n then some i.toNat else none) else if -(n : Int) ≤ i then some (i + n).toNat else none
def atD {α : Type} (xs : List α) (i : Int) : Option α := (ixN' xs.length i).bind fun j => xs[j]?
def opIx : List R → VEnv → Option (R × VEnv)
  | [r1, r2], env => match r2.data env with
    | some (.int i) => match r1.items env with
      | some (_, ds) => (atD ds i).map fun d => (.o (.val d), env)
      | none => match r1.data env with
        | some (.str s) => if s.length ≤ maxLen then (atD s i).map fun k => (.o (.val (.str [k])), env) else none
        | _ => none
    | _ => none
  | _, _ => none
def opOr (f g : List R → VEnv → Option (R × VEnv)) : List R → VEnv → Option (R × VEnv) := fun rs env => match f rs env with
  | some x => some x
  | none => g rs env
def sIx' (n d : Nat) : Option Int → Nat
  | none => d
  | some v => if v < 0 then (v + n).toNat else min v.toNat n
def cutD {α : Type} (xs : List α) (lo hi : Option Int) : List α := (xs.drop (sIx' xs.length 0 lo)).take (sIx' xs.length xs.length hi - sIx' xs.length 0 lo)
def opSl (r : R) (lo hi : Option Int) : VEnv → Option (R × VEnv) := fun env => match r.items env with
  | some (true, ds) => some (.o (oLst (cutD ds lo hi)), env)
  | some (false, ds) => some (.o (.val (.tup (cutD ds lo hi))), env)
  | none => match r.data env with
    | some (.str s) => if s.length ≤ maxLen then some (.o (.val (.str (cutD s lo hi))), env) else none
    | some (.scr ns) => some (.o (oLst ((cutD ns lo hi).map .int)), env)
    | _ => none
def eNoPart : M (Option Int) := M.ret none
def ePart (a : EV) : M (Option Int) := M.bind a fun r => match r with
  | .o (.val (.int i)) => M.ret (some i)
  | _ => M.fail
def M.lift {α : Type} (g : VEnv → Option (α × VEnv)) : M α := fun env => (g env).map fun p => .ok p.1 p.2
def eSlice (a : EV) (lo hi : M (Option Int)) : EV := M.bind a fun r => M.bind lo fun l => M.bind hi fun h => M.lift (opSl r l h)
def opList : List R → VEnv → Option (R × VEnv)
  | [r], env => (r.items env).map fun p => (.o (oLst p.2), env)
  | _, _ => none
def opTuple : List R → VEnv → Option (R × VEnv)
  | [r], env => (r.items env).map fun p => (.o (.val (.tup p.2)), env)
  | _, _ => none
def eTest (a : EV) : M Bool := M.bind a fun r => match r with
  | .o (.val (.bl b)) => M.ret b
  | _ => M.fail
def eAnd (a b : M Bool) : M Bool := M.bind a fun x => if x = true then b else M.ret false
def eOr (a b : M Bool) : M Bool := M.bind a fun x => if x = true then M.ret true else b
def eNot (a : M Bool) : M Bool := M.bind a fun x => M.ret (!x)
def eIf (c : M Bool) (a b : EV) : EV := M.bind c fun x => if x = true then a else b
def ofB (m : M Bool) : EV := M.bind m fun b => M.ret (.o (.val (.bl b)))
def eAndV (a b : EV) : EV := M.bind (eTest a) fun x => if x = true then b else M.ret (.o (.val (.bl false)))
def eOrV (a b : EV) : EV := M.bind (eTest a) fun x => if x = true then M.ret (.o (.val (.bl true))) else b
def eNotV (a : EV) : EV := ofB (eNot (eTest a))
def eChain (g g' : List D → Option D) (a b c : EV) : EV := M.bind a fun x => M.bind b fun y => M.bind (M.lift (opS g [x, y])) fun z => match z with
  | .o (.val (.bl true)) => M.bind c fun w => M.lift (opS g' [y, w])
  | .o (.val (.bl false)) => M.ret (.o (.val (.bl false)))
  | _ => M.fail
end VS
namespace VS
inductive Out where
  | nx
  | brk
  | cnt
  | ret (x : O)
abbrev SV1 := M Out
def sNext : SV1 := M.ret .nx
def sSeq (f g : SV1) : SV1 := M.bind f fun o => match o with
  | .nx => g
  | o => M.ret o
def sBreak : SV1 := M.ret .brk
def sCont : SV1 := M.ret .cnt
def sDrop (e : EV) : SV1 := M.bind e fun _ => M.ret .nx
def setLoc (i : Nat) (x : O) (env : VEnv) : Option VEnv := match env[i]? with
  | some (.par _) => none
  | some _ => some (env.set i (.loc x))
  | none => none
inductive Tg where
  | name (i : Nat)
  | tup (l : List Tg)
def O.kids : O → Option (List O)
  | .val (.tup ds) => some (ds.map .val)
  | .tup os => some os
  | _ => none
mutual
def Tg.set : Tg → O → VEnv → Option VEnv
  | .name i, x, env => setLoc i x env
  | .tup l, x, env => match x.kids with
    | some os => Tg.sets l os env
    | none => none
def Tg.sets : List Tg → List O → VEnv → Option VEnv
  | [], [], env => some env
  | t :: l, x :: os, env => match t.set x env with
    | some e => Tg.sets l os e
    | none => none
  | _, _, _ => none
end
def M.liftE (g : VEnv → Option VEnv) : SV1 := fun env => (g env).map fun e => .ok .nx e
def sAsg (t : Tg) (e : EV) : SV1 := M.bind e fun r => fun env => match r.settle env with
  | some (x, e1) => M.liftE (t.set x) e1
  | none => none
def R.move (r : R) (env : VEnv) : Option (O × VEnv) := match r with
  | .o x => some (x, env)
  | .b i => match env[i]? with
    | some (.loc y) => some (y, env.set i .no)
    | _ => none
def sRet (e : EV) : SV1 := M.bind e fun r => fun env => (r.move env).map fun p => .ok (.ret p.1) p.2
def sRetN : SV1 := M.ret (.ret (.val .non))
def sIf (c : M Bool) (f g : SV1) : SV1 := M.bind c fun b => if b = true then f else g
def augV (i : Nat) (x : D) (f : List D → Option D) (r : R) : SV1 := fun en => match r.data en with
  | some y => match f [x, y] with
    | some d => M.liftE (setLoc i (.val d)) en
    | none => none
  | none => none
def sAug (i : Nat) (f : List D → Option D) (e : EV) : SV1 := fun e0 => match VEnv.at e0 i with
  | some (.val x) => M.bind e (augV i x f) e0
  | _ => none
def forL (t : Tg) (body : SV1) : List D → SV1
  | [] => M.ret .nx
  | d :: ds => fun env => match t.set (.val d) env with
    | none => none
    | some e1 => match body e1 with
      | some (.ok .nx e2) => forL t body ds e2
      | some (.ok .cnt e2) => forL t body ds e2
      | some (.ok .brk e2) => some (.ok .nx e2)
      | some (.ok (.ret x) e2) => some (.ok (.ret x) e2)
      | some (.ex e e2) => some (.ex e e2)
      | none => none
def sFor (it : M (List D)) (t : Tg) (body : SV1) : SV1 := M.bind it (forL t body)
def hide : List Nat → VEnv → VEnv
  | [], env => env
  | i :: is, env => (hide is env).set i .no
def back (is : List Nat) (old env : VEnv) : VEnv := match is with
  | [] => env
  | i :: is => match old[i]? with
    | some c => (back is old env).set i c
    | none => back is old env
def compL (is : List Nat) (t : Tg) (c : M Bool) (e : EV) : List D → List O → M (List O)
  | [], acc => M.ret acc
  | d :: ds, acc => fun env => match t.set (.val d) env with
    | none => none
    | some e1 => M.bind c (fun b => if b = true then M.bind (M.bind e fun r => M.lift fun en => r.settle en) fun x => if acc.length < maxLen then fun en => compL is t c e ds (acc ++ [x]) (hide is en) else M.fail
        else fun en => compL is t c e ds acc (hide is en)) e1
def eComp (is : List Nat) (it : M (List D)) (t : Tg) (c : M Bool) (e : EV) : EV := M.bind it fun ds => fun env => match compL is t c e ds [] (hide is env) with
  | some (.ok os e2) => some (.ok (.o (.lst os)) (back is env e2))
  | _ => none
def yes : M Bool := M.ret true
def itList (e : EV) : M (List D) := M.bind e fun r => fun env => match r.settle env with
  | some (x, e1) => match x.data with
    | .lst ds => some (.ok ds e1)
    | .tup ds => some (.ok ds e1)
    | _ => none
  | none => none
def rangeD (lo hi : Int) : List D := (List.range (hi - lo).toNat).map fun (k : Nat) => D.int (lo + k)
def bigI (i : Int) : Bool := decide (-(2 ^ 62) ≤ i ∧ i < 2 ^ 62)
def itRange1 (e : EV) : M (List D) := M.bind e fun r => match r with
  | .o (.val (.int n)) => if bigI n then M.ret (rangeD 0 n) else M.fail
  | _ => M.fail
def itRange2 (a b : EV) : M (List D) := M.bind a fun r => M.bind b fun s => match r, s with
  | .o (.val (.int m)), .o (.val (.int n)) => if bigI m && bigI n then M.ret (rangeD m n) else M.fail
  | _, _ => M.fail
end VS
namespace VS
mutual
def Tg.slots : Tg → List Nat
  | .name i => [i]
  | .tup l => slotsL l
def slotsL : List Tg → List Nat
  | [] => []
  | t :: l => t.slots ++ slotsL l
end
end VS
namespace VS
def iterW (c : M Bool) (b : SV1) : Nat → SV1
  | 0 => M.fail
  | n + 1 => M.bind c fun t => if t = true then (fun env => match b env with
      | some (.ok .nx e) => iterW c b n e
      | some (.ok .cnt e) => iterW c b n e
      | some (.ok .brk e) => some (.ok .nx e)
      | some (.ok (.ret x) e) => some (.ok (.ret x) e)
      | some (.ex x e) => some (.ex x e)
      | none => none) else M.ret .nx
theorem iterW_up (c : M Bool) (b : SV1) : ∀ (n : Nat) (env : VEnv) (r : Res Out), iterW c b n env = some r → iterW c b (n + 1) env = some r := by
  intro n
  induction n with
  | zero => intro env r h; cases h
  | succ n ih =>
    intro env r h
    unfold iterW M.bind at h ⊢
    cases hc : c env with
    | none => rw [hc] at h; cases h
    | some rc =>
      rw [hc] at h
      cases rc with
      | ex x e => exact h
      | ok t e1 =>
        simp only at h ⊢
        split at h
        · rename_i ht
          rw [if_pos ht]
          simp only at h ⊢
          cases hb : b e1 with
          | none => rw [hb] at h; cases h
          | some rb =>
            rw [hb] at h
            cases rb with
            | ex x e => exact h
            | ok o e =>
              cases o with
              | nx => exact ih _ _ h
              | cnt => exact ih _ _ h
              | brk => exact h
              | ret x => exact h
        · rename_i ht
          rw [if_neg ht]
          exact h
theorem iterW_le (c : M Bool) (b : SV1) {n m : Nat} (h : n ≤ m) {env : VEnv} {r : Res Out} (e : iterW c b n env = some r) : iterW c b m env = some r := by
  induction h with
  | refl => exact e
  | step _ ih => exact iterW_up c b _ env r ih
open Classical in
noncomputable def sWhile (c : M Bool) (b : SV1) : SV1 := fun env => if h : ∃ r n, iterW c b n env = some r then some (Classical.choose h) else none
theorem sWhile_of {c : M Bool} {b : SV1} {n : Nat} {env : VEnv} {r : Res Out} (h : iterW c b n env = some r) : sWhile c b env = some r := by
  have hx : ∃ r n, iterW c b n env = some r := ⟨r, n, h⟩
  unfold sWhile
  rw [dif_pos hx]
  obtain ⟨m, hm⟩ := Classical.choose_spec hx
  have h1 := iterW_le c b (Nat.le_max_left n m) h
  have h2 := iterW_le c b (Nat.le_max_right n m) hm
  rw [h1] at h2
  exact h2.symm
theorem sWhile_inv {c : M Bool} {b : SV1} {env : VEnv} {r : Res Out} (h : sWhile c b env = some r) : ∃ n, iterW c b n env = some r := by
  unfold sWhile at h
  split at h
  · rename_i hx
    cases h
    exact Classical.choose_spec hx
  · cases h
def fAddI : List D → Option D
  | [.int i, .int j] => some (.int (i + j))
  | _ => none
def fSubI : List D → Option D
  | [.int i, .int j] => some (.int (i - j))
  | _ => none
def onList (i : Nat) (env : VEnv) (f : List O → Option (List O)) : Option VEnv := match VEnv.at env i with
  | some (.lst os) => (f os).map fun os' => VEnv.put env i (.lst os')
  | _ => none
def isLst (o : Option O) : Bool := match o with
  | some (.lst _) => true
  | _ => false
def eLm (i : Nat) (m : M (List R)) (g : List R → VEnv → Option (R × VEnv)) : EV := fun env => if isLst (VEnv.at env i) then eOp g m env else none
def lmAppend (i : Nat) : List R → VEnv → Option (R × VEnv)
  | [r], env => match r.settle env with
    | some (x, e1) => (onList i e1 fun os => if os.length < maxLen then some (os ++ [x]) else none).map fun e2 => (.o (.val .non), e2)
    | none => none
  | _, _ => none
def lmExtend (i : Nat) : List R → VEnv → Option (R × VEnv)
  | [r], env => match r.items env with
    | some (_, ds) => (onList i env fun os => if os.length + ds.length ≤ maxLen then some (os ++ ds.map .val) else none).map fun e2 => (.o (.val .non), e2)
    | none => none
  | _, _ => none
def lmPop (i : Nat) : List R → VEnv → Option (R × VEnv)
  | [], env => match VEnv.at env i with
    | some (.lst os) => match os[os.length - 1]? with
      | some (.val d) => some (.o (.val d), VEnv.put env i (.lst os.dropLast))
      | _ => none
    | _ => none
  | _, _ => none
def lmPopAt (i : Nat) : List R → VEnv → Option (R × VEnv)
  | [r], env => match r.data env, VEnv.at env i with
    | some (.int k), some (.lst os) => if 0 ≤ k ∧ k < 2 ^ 62 then match os[k.toNat]? with
      | some (.val d) => some (.o (.val d), VEnv.put env i (.lst (os.eraseIdx k.toNat)))
      | _ => none
      else none
    | _, _ => none
  | _, _ => none
def lmClear (i : Nat) : List R → VEnv → Option (R × VEnv)
  | [], env => (onList i env fun _ => some []).map fun e2 => (.o (.val .non), e2)
  | _, _ => none
def sSetIx (i : Nat) (e j : EV) : SV1 := M.bind e fun r => fun en => if isLst (VEnv.at en i) then M.bind j (fun q => fun env => match r.settle env with
  | some (x, e1) => match q with
    | .o (.val (.int k)) => M.liftE (fun en => onList i en fun os => (ixN' os.length k).map fun n => os.set n x) e1
    | _ => none
  | none => none) en else none
end VS
namespace VS
def itemAt (i : Nat) (k : Int) (env : VEnv) : Option D := match VEnv.at env i with
  | some (.lst os) => match atD os k with
    | some (.val d) => some d
    | _ => none
  | _ => none
def augEnd (i : Nat) (k : Int) (x : D) (f : List D → Option D) (r : R) : SV1 := fun en => match r.data en with
  | some y => match f [x, y] with
    | some z => M.liftE (fun en => onList i en fun os => (ixN' os.length k).map fun n => os.set n (.val z)) en
    | none => none
  | none => none
def sAugIx (i : Nat) (j : EV) (f : List D → Option D) (e : EV) : SV1 := fun e0 => if isLst (VEnv.at e0 i) then M.bind j (fun q => fun env => match q with
  | .o (.val (.int k)) => if 0 ≤ k ∧ k < 2 ^ 62 then match itemAt i k env with
    | some x => M.bind e (augEnd i k x f) env
    | none => none
    else none
  | _ => none) e0 else none
end VS
namespace VS
inductive FRes where
  | ret (x : O) (args : List O)
  | ex (e : Exc) (args : List O)
abbrev Fn := List O → Option FRes
def argO : List Bool → List R → VEnv → Option (List O)
  | [], [], _ => some []
  | m :: ms, r :: rs, env => match (if m = true then r.own env else (r.data env).map O.val), argO ms rs env with
    | some x, some os => some (x :: os)
    | _, _ => none
  | _, _, _ => none
def mutSlots : List Bool → List R → List Nat
  | m :: ms, r :: rs => match m, r with
    | true, .b i => i :: mutSlots ms rs
    | _, _ => mutSlots ms rs
  | _, _ => []
def borSlots : List Bool → List R → List Nat
  | m :: ms, r :: rs => match m, r with
    | false, .b i => i :: borSlots ms rs
    | _, _ => borSlots ms rs
  | _, _ => []
def putMuts : List Bool → List R → List O → VEnv → VEnv
  | m :: ms, r :: rs, x :: os, env => match m, r with
    | true, .b i => putMuts ms rs os (VEnv.put env i x)
    | _, _ => putMuts ms rs os env
  | _, _, _, env => env
def cleanMuts : List Bool → List O → Bool
  | m :: ms, x :: os => (!m || x.clean) && cleanMuts ms os
  | _, _ => true
def FRes.clean (ms : List Bool) : FRes → Bool
  | .ret x os => x.clean && cleanMuts ms os
  | .ex e os => e.fs.all (fun p => p.2.imm) && cleanMuts ms os
def FRes.out (ms : List Bool) (rs : List R) (env : VEnv) : FRes → Res R
  | .ret x os => .ok (.o x) (putMuts ms rs os env)
  | .ex e os => .ex e (putMuts ms rs os env)
def okSlots (ms : List Bool) (rs : List R) : Bool := decide ((mutSlots ms rs).Nodup) && (mutSlots ms rs).all (fun i => !(borSlots ms rs).contains i)
def callE (ms : List Bool) (g : Fn) (rs : List R) : EV := fun env => match argO ms rs env with
  | some os => match g os with
    | some res => if okSlots ms rs = true ∧ ((borSlots ms rs).isEmpty || res.clean ms) = true then some (res.out ms rs env) else none
    | none => none
  | none => none
def eCall (ms : List Bool) (g : Fn) (as : List EV) : EV := M.bind (eArgs as) (callE ms g)
def eFrz (a : EV) : EV := M.bind a fun r => M.lift fun en => (r.settle en).map fun p => (.o (.val p.1.data), p.2)
def argsOk : List Bool → List O → Bool
  | [], [] => true
  | true :: ms, _ :: os => argsOk ms os
  | false :: ms, .val _ :: os => argsOk ms os
  | _, _ => false
def initEnv : List Bool → List O → Nat → VEnv
  | true :: ms, x :: os, n => .par x :: initEnv ms os n
  | false :: ms, x :: os, n => .loc x :: initEnv ms os n
  | _, _, n => List.replicate n .no
def outs : List Bool → List O → VEnv → Option (List O)
  | [], [], _ => some []
  | true :: ms, _ :: os, .par x :: env => (outs ms os env).map (x :: ·)
  | false :: ms, x :: os, _ :: env => (outs ms os env).map (x :: ·)
  | _, _, _ => none
def fnSem (ms : List Bool) (n : Nat) (body : SV1) : Fn := fun os => if argsOk ms os = true then match body (initEnv ms os n) with
  | some (.ok (.ret x) env) => (outs ms os env).map (.ret x)
  | some (.ok .nx env) => (outs ms os env).map (.ret (.val .non))
  | some (.ex e env) => (outs ms os env).map (.ex e)
  | _ => none
  else none
end VS
namespace VS
def eRecv (chk : R → VEnv → Bool) (a : EV) (as : List EV) (g : List R → VEnv → Option (R × VEnv)) : EV := M.bind a fun r => fun en => if chk r en = true then M.bind (eArgs as) (fun rs => M.lift (g (r :: rs))) en else none
def isStrR (r : R) (_ : VEnv) : Bool := match r with
  | .o (.val (.str _)) => true
  | _ => false
def joinD (s : List Nat) : List (List Nat) → List Nat
  | [] => []
  | [p] => p
  | p :: q :: r => p ++ (s ++ joinD s (q :: r))
def fJoin : List D → Option D
  | [.str s, .lst ds] => match allStr ds with
    | some ys => if (ys.map List.length).sum + ys.length * s.length ≤ maxLen then some (.str (joinD s ys)) else none
    | none => none
  | [.str s, .tup ds] => match allStr ds with
    | some ys => if (ys.map List.length).sum + ys.length * s.length ≤ maxLen then some (.str (joinD s ys)) else none
    | none => none
  | _ => none
def fInB : List D → Option Bool
  | [.str [k], .str s] => some (decide (k ∈ s))
  | [x, .lst ds] => if okE x && okE (.lst ds) then some (ds.any fun z => eqD z x) else none
  | _ => none
def fIn (l : List D) : Option D := (fInB l).map .bl
def fNotIn (l : List D) : Option D := (fInB l).map fun b => .bl (!b)
end VS
namespace VS
def eDict0 (t : Bool) : EV := M.ret (.o (.dct t []))
def gAdd := opOr (opS fAdd) opCat
def gMul := opOr (opS fMul) opRep
end VS
namespace VS
open PySem L2
def SV (s : List Nat) : V := .str ⟨s.toArray⟩
def keyD : Key → D
  | .inl i => .int i
  | .inr x => .str x.cps.toList
structure Cn where
  K : PySem.W.Frag
  mg : Str → Option Value
  nm : Nat → Str
inductive Rep (c : Cn) (F : Hp) : V → D → Prop
  | non : Rep c F .non .non
  | bl (b : Bool) : Rep c F (.bl b) (.bl b)
  | int (i : Int) : Rep c F (.int i) (.int i)
  | str (s : List Nat) : Rep c F (SV s) (.str s)
  | tup {a : Addr} {vs : List V} {ds : List D} : F a = some (.tup vs) → vs.length = ds.length → (∀ (k : Nat) (v : V) (d : D), vs[k]? = some v → ds[k]? = some d → Rep c F v d) → Rep c F (.ref a) (.tup ds)
  | lst {a : Addr} {vs : List V} {ds : List D} : F a = some (.lst vs) → vs.length = ds.length → (∀ (k : Nat) (v : V) (d : D), vs[k]? = some v → ds[k]? = some d → Rep c F v d) → Rep c F (.ref a) (.lst ds)
  | scr {a : Addr} {ns : List Int} : SqL c.K F a (ns.map V.int) → Rep c F (.ref a) (.scr ns)
  | dK {a : Addr} {kvs : List (Key × V)} {ks : List (D × D)} : Rd F a (.dK kvs) → kvs.length = ks.length → (∀ (k : Nat) (kv : Key × V) (kd : D × D), kvs[k]? = some kv → ks[k]? = some kd → kd.1 = keyD kv.1) →
      (∀ (k : Nat) (kv : Key × V) (kd : D × D), kvs[k]? = some kv → ks[k]? = some kd → Rep c F kv.2 kd.2) → Rep c F (.ref a) (.dct false ks)
  | dT {a : Addr} {kvs : List (List Key × V)} {ks : List (D × D)} : Rd F a (.dT kvs) → kvs.length = ks.length → (∀ (k : Nat) (kv : List Key × V) (kd : D × D), kvs[k]? = some kv → ks[k]? = some kd → kd.1 = .tup (kv.1.map keyD)) →
      (∀ (k : Nat) (kv : List Key × V) (kd : D × D), kvs[k]? = some kv → ks[k]? = some kd → Rep c F kv.2 kd.2) → Rep c F (.ref a) (.dct true ks)
  | ins {a C dx : Addr} {n : Nat} {fs : List (Str × V)} {ds : List (Nat × D)} : c.mg (c.nm n) = some (.ref C) → F a = some (.ins C dx fs) → fs.length = ds.length →
      (∀ (k : Nat) (f : Str × V) (d : Nat × D), fs[k]? = some f → ds[k]? = some d → f.1 = c.nm d.1) →
      (∀ (k : Nat) (f : Str × V) (d : Nat × D), fs[k]? = some f → ds[k]? = some d → Rep c F f.2 d.2) → Rep c F (.ref a) (.ins n ds)
abbrev Set1 := Addr → Prop
inductive RO (c : Cn) (F H : Hp) : V → O → Set1 → Prop
  | val {v : V} {d : D} {T : Set1} : Rep c F v d → (∀ x, ¬ T x) → RO c F H v (.val d) T
  | lst {a : Addr} {vs : List V} {os : List O} {T : Set1} (S : Nat → Set1) : H a = some (.lst vs) → vs.length = os.length → (∀ (k : Nat) (v : V) (o : O), vs[k]? = some v → os[k]? = some o → RO c F H v o (S k)) →
      (∀ i j x, S i x → S j x → i = j) → (∀ k x, S k x → x ≠ a ∧ k < os.length) → (∀ x, T x ↔ x = a ∨ ∃ k, S k x) → RO c F H (.ref a) (.lst os) T
  | tup {a : Addr} {vs : List V} {os : List O} {T : Set1} (S : Nat → Set1) : F a = some (.tup vs) → vs.length = os.length → (∀ (k : Nat) (v : V) (o : O), vs[k]? = some v → os[k]? = some o → RO c F H v o (S k)) →
      (∀ i j x, S i x → S j x → i = j) → (∀ k x, S k x → k < os.length) → (∀ x, T x ↔ ∃ k, S k x) → RO c F H (.ref a) (.tup os) T
  | dK {a : Addr} {kvs : List (Key × V)} {ks : List (D × O)} {T : Set1} (S : Nat → Set1) : H a = some (.dK kvs) → kvs.length = ks.length → (∀ (k : Nat) (kv : Key × V) (kd : D × O), kvs[k]? = some kv → ks[k]? = some kd → kd.1 = keyD kv.1) →
      (∀ (k : Nat) (kv : Key × V) (kd : D × O), kvs[k]? = some kv → ks[k]? = some kd → RO c F H kv.2 kd.2 (S k)) →
      (∀ i j x, S i x → S j x → i = j) → (∀ k x, S k x → x ≠ a ∧ k < ks.length) → (∀ x, T x ↔ x = a ∨ ∃ k, S k x) → RO c F H (.ref a) (.dct false ks) T
  | dT {a : Addr} {kvs : List (List Key × V)} {ks : List (D × O)} {T : Set1} (S : Nat → Set1) : H a = some (.dT kvs) → kvs.length = ks.length → (∀ (k : Nat) (kv : List Key × V) (kd : D × O), kvs[k]? = some kv → ks[k]? = some kd → kd.1 = .tup (kv.1.map keyD)) →
      (∀ (k : Nat) (kv : List Key × V) (kd : D × O), kvs[k]? = some kv → ks[k]? = some kd → RO c F H kv.2 kd.2 (S k)) →
      (∀ i j x, S i x → S j x → i = j) → (∀ k x, S k x → x ≠ a ∧ k < ks.length) → (∀ x, T x ↔ x = a ∨ ∃ k, S k x) → RO c F H (.ref a) (.dct true ks) T
  | ins {a C dx : Addr} {n : Nat} {fs : List (Str × V)} {ds : List (Nat × O)} {T : Set1} (S : Nat → Set1) : c.mg (c.nm n) = some (.ref C) → H a = some (.ins C dx fs) → fs.length = ds.length →
      (∀ (k : Nat) (f : Str × V) (d : Nat × O), fs[k]? = some f → ds[k]? = some d → f.1 = c.nm d.1) →
      (∀ (k : Nat) (f : Str × V) (d : Nat × O), fs[k]? = some f → ds[k]? = some d → RO c F H f.2 d.2 (S k)) →
      (∀ i j x, S i x → S j x → i = j) → (∀ k x, S k x → x ≠ a ∧ k < ds.length) → (∀ x, T x ↔ x = a ∨ ∃ k, S k x) → RO c F H (.ref a) (.ins n ds) T
section
variable {c : Cn} {F F' H H' : Hp} {v : V} {d : D} {o : O} {T : Set1}
theorem rd_up {a : Addr} {u : HO} (e : Same F F') (h : Rd F a u) : Rd F' a u := by
  rcases h with h | ⟨o, h⟩
  · exact .inl (e a _ h)
  · exact .inr ⟨o, e a _ h⟩
theorem sqT_up {a : Addr} {xs : List V} (e : Same F F') (h : SqT c.K F a xs) : SqT c.K F' a xs := by
  rcases h with h | h
  · exact .inl (rd_up e h)
  · exact .inr h
theorem sqL_up {a : Addr} {xs : List V} (e : Same F F') (h : SqL c.K F a xs) : SqL c.K F' a xs := by
  rcases h with h | h
  · exact .inl (rd_up e h)
  · exact .inr h
theorem Rep.up (r : Rep c F v d) (e : Same F F') : Rep c F' v d := by
  induction r with
  | non => exact .non
  | bl b => exact .bl b
  | int i => exact .int i
  | str s => exact .str s
  | tup h l _ ih => exact .tup (e _ _ h) l ih
  | lst h l _ ih => exact .lst (e _ _ h) l ih
  | scr h => exact .scr (sqL_up e h)
  | dK h l hk _ ih => exact .dK (rd_up e h) l hk ih
  | dT h l hk _ ih => exact .dT (rd_up e h) l hk ih
  | ins hc h l hk _ ih => exact .ins hc (e _ _ h) l hk ih
theorem RO.up (r : RO c F H v o T) (e : Same F F') (k : ∀ x u, T x → H x = some u → H' x = some u) : RO c F' H' v o T := by
  induction r with
  | val h n => exact .val (h.up e) n
  | lst S h l _ dj bd hT ih => exact .lst S (k _ _ ((hT _).mpr (.inl rfl)) h) l (fun i v o hv ho => ih i v o hv ho fun x u hx => k x u ((hT x).mpr (.inr ⟨i, hx⟩))) dj bd hT
  | tup S h l _ dj bd hT ih => exact .tup S (e _ _ h) l (fun i v o hv ho => ih i v o hv ho fun x u hx => k x u ((hT x).mpr ⟨i, hx⟩)) dj bd hT
  | dK S h l hk _ dj bd hT ih => exact .dK S (k _ _ ((hT _).mpr (.inl rfl)) h) l hk (fun i v o hv ho => ih i v o hv ho fun x u hx => k x u ((hT x).mpr (.inr ⟨i, hx⟩))) dj bd hT
  | dT S h l hk _ dj bd hT ih => exact .dT S (k _ _ ((hT _).mpr (.inl rfl)) h) l hk (fun i v o hv ho => ih i v o hv ho fun x u hx => k x u ((hT x).mpr (.inr ⟨i, hx⟩))) dj bd hT
  | ins S hc h l hk _ dj bd hT ih => exact .ins S hc (k _ _ ((hT _).mpr (.inl rfl)) h) l hk (fun i v o hv ho => ih i v o hv ho fun x u hx => k x u ((hT x).mpr (.inr ⟨i, hx⟩))) dj bd hT
def Mu : HO → Prop
  | .lst _ => True
  | .dK _ => True
  | .dT _ => True
  | .ins _ _ _ => True
  | _ => False
theorem get_of_lt {α β : Type} {xs : List α} {ys : List β} (h : xs.length = ys.length) {k : Nat} (hk : k < ys.length) : ∃ x y, xs[k]? = some x ∧ ys[k]? = some y :=
  ⟨xs[k]'(by omega), ys[k], List.getElem?_eq_getElem (by omega), List.getElem?_eq_getElem hk⟩
theorem RO.own (r : RO c F H v o T) : ∀ x, T x → ∃ u, H x = some u ∧ Mu u := by
  induction r with
  | val h n => exact fun x hx => absurd hx (n x)
  | lst S h l _ dj bd hT ih =>
    intro x hx
    rcases (hT x).mp hx with rfl | ⟨k, hk⟩
    · exact ⟨_, h, trivial⟩
    · obtain ⟨v, o, hv, ho⟩ := get_of_lt l (bd k x hk).2
      exact ih k v o hv ho x hk
  | tup S h l _ dj bd hT ih =>
    intro x hx
    obtain ⟨k, hk⟩ := (hT x).mp hx
    obtain ⟨v, o, hv, ho⟩ := get_of_lt l (bd k x hk)
    exact ih k v o hv ho x hk
  | dK S h l _ _ dj bd hT ih =>
    intro x hx
    rcases (hT x).mp hx with rfl | ⟨k, hk⟩
    · exact ⟨_, h, trivial⟩
    · obtain ⟨v, o, hv, ho⟩ := get_of_lt l (bd k x hk).2
      exact ih k v o hv ho x hk
  | dT S h l _ _ dj bd hT ih =>
    intro x hx
    rcases (hT x).mp hx with rfl | ⟨k, hk⟩
    · exact ⟨_, h, trivial⟩
    · obtain ⟨v, o, hv, ho⟩ := get_of_lt l (bd k x hk).2
      exact ih k v o hv ho x hk
  | ins S hc h l _ _ dj bd hT ih =>
    intro x hx
    rcases (hT x).mp hx with rfl | ⟨k, hk⟩
    · exact ⟨_, h, trivial⟩
    · obtain ⟨v, o, hv, ho⟩ := get_of_lt l (bd k x hk).2
      exact ih k v o hv ho x hk
theorem datas_len : ∀ os : List O, (datas os).length = os.length
  | [] => rfl
  | o :: os => congrArg (· + 1) (datas_len os)
theorem datas_get : ∀ (os : List O) (k : Nat), (datas os)[k]? = (os[k]?).map O.data
  | [], k => by simp [datas]
  | o :: os, 0 => by simp [datas]
  | o :: os, k + 1 => by simpa [datas] using datas_get os k
theorem datas_map (os : List O) : datas os = os.map O.data := List.ext_getElem? fun k => by rw [datas_get, List.getElem?_map]
theorem dataK_map : ∀ ks : List (D × O), dataK ks = ks.map fun p => (p.1, p.2.data)
  | [] => rfl
  | (d, o) :: ks => by simp [dataK, dataK_map ks]
theorem dataF_map : ∀ ks : List (Nat × O), dataF ks = ks.map fun p => (p.1, p.2.data)
  | [] => rfl
  | (d, o) :: ks => by simp [dataF, dataF_map ks]
theorem RO.rep {G : Hp} (r : RO c F H v o T) (e : Same F G) (k : ∀ x u, T x → H x = some u → G x = some u) : Rep c G v o.data := by
  induction r with
  | val h n => exact h.up e
  | @lst a vs os T S h l _ dj bd hT ih =>
    rw [O.data, datas_map]
    refine .lst (k _ _ ((hT _).mpr (.inl rfl)) h) (by rw [List.length_map]; exact l) fun i v d hv hd => ?_
    rw [List.getElem?_map] at hd
    cases ho : os[i]? with
    | none => rw [ho] at hd; cases hd
    | some o =>
      rw [ho] at hd
      cases hd
      exact ih i v o hv ho fun x u hx => k x u ((hT x).mpr (.inr ⟨i, hx⟩))
  | @tup a vs os T S h l _ dj bd hT ih =>
    rw [O.data, datas_map]
    refine .tup (e _ _ h) (by rw [List.length_map]; exact l) fun i v d hv hd => ?_
    rw [List.getElem?_map] at hd
    cases ho : os[i]? with
    | none => rw [ho] at hd; cases hd
    | some o =>
      rw [ho] at hd
      cases hd
      exact ih i v o hv ho fun x u hx => k x u ((hT x).mpr ⟨i, hx⟩)
  | @dK a kvs ks T S h l hk _ dj bd hT ih =>
    rw [O.data, dataK_map]
    refine .dK (.inl (k _ _ ((hT _).mpr (.inl rfl)) h)) (by rw [List.length_map]; exact l) (fun i kv kd hv hd => ?_) fun i kv kd hv hd => ?_
    all_goals
      rw [List.getElem?_map] at hd
      cases ho : ks[i]? with
      | none => rw [ho] at hd; cases hd
      | some o =>
        rw [ho] at hd
        cases hd
        first
          | exact hk i kv o hv ho
          | exact ih i kv o hv ho fun x u hx => k x u ((hT x).mpr (.inr ⟨i, hx⟩))
  | @dT a kvs ks T S h l hk _ dj bd hT ih =>
    rw [O.data, dataK_map]
    refine .dT (.inl (k _ _ ((hT _).mpr (.inl rfl)) h)) (by rw [List.length_map]; exact l) (fun i kv kd hv hd => ?_) fun i kv kd hv hd => ?_
    all_goals
      rw [List.getElem?_map] at hd
      cases ho : ks[i]? with
      | none => rw [ho] at hd; cases hd
      | some o =>
        rw [ho] at hd
        cases hd
        first
          | exact hk i kv o hv ho
          | exact ih i kv o hv ho fun x u hx => k x u ((hT x).mpr (.inr ⟨i, hx⟩))
  | @ins a C dx n fs ds T S hc h l hk _ dj bd hT ih =>
    rw [O.data, dataF_map]
    refine .ins hc (k _ _ ((hT _).mpr (.inl rfl)) h) (by rw [List.length_map]; exact l) (fun i kv kd hv hd => ?_) fun i kv kd hv hd => ?_
    all_goals
      rw [List.getElem?_map] at hd
      cases ho : ds[i]? with
      | none => rw [ho] at hd; cases hd
      | some o =>
        rw [ho] at hd
        cases hd
        first
          | exact hk i kv o hv ho
          | exact ih i kv o hv ho fun x u hx => k x u ((hT x).mpr (.inr ⟨i, hx⟩))
end
end VS
namespace VS
open PySem L2
theorem Same.rfl' {H : Hp} : Same H H := fun _ _ h => h
theorem none_of_ne {α : Type} {x : Option α} (h : ¬ x ≠ none) : x = none := by
  cases x with
  | none => rfl
  | some a => exact absurd (fun e => by cases e) h
theorem ne_none {α : Type} {x : Option α} {a : α} (h : x = some a) : x ≠ none := by rw [h]; exact fun e => by cases e
structure Hold (c : Cn) (F : Hp) (S : Nat → Set1) (env : VEnv) (σ : L2.St) (H : Hp) : Prop where
  ex : Same F H
  len : env.length = σ.length
  cell : ∀ i o, env.at i = some o → ∃ v, σ[i]? = some (some v) ∧ RO c F H v o (S i)
  dis : ∀ i j x, S i x → S j x → i = j
  off : ∀ i x, S i x → F x = none
  dead : ∀ i x, S i x → ∃ o, env.at i = some o
structure Go (F : Hp) (U : Set1) (H : Hp) (F' : Hp) (S' : Nat → Set1) (T : Set1) (H' : Hp) : Prop where
  exF : Same F F'
  fr : ∀ x u, H x = some u → ¬ U x → H' x = some u
  nS : ∀ i x, S' i x → U x ∨ H x = none
  nT : ∀ x, T x → U x ∨ H x = none
  nF : ∀ x, F' x ≠ none → F x ≠ none ∨ U x ∨ H x = none ∨ ∃ xs, H x = some (.tup xs)
  dT : ∀ i x, T x → ¬ S' i x
  oT : ∀ x, T x → F' x = none
def un (S : Nat → Set1) : Set1 := fun x => ∃ j, S j x
def noT : Set1 := fun _ => False
def Kp (env : VEnv) (σ : L2.St) (env' : VEnv) (σ' : L2.St) : Prop := ∀ (i : Nat) (o' : O), env'[i]? = some (Cell.par o') → (∃ o : O, env[i]? = some (Cell.par o)) ∧ σ'[i]? = σ[i]?
theorem Kp.rfl' {env : VEnv} {σ : L2.St} : Kp env σ env σ := fun i o h => ⟨⟨o, h⟩, rfl⟩
theorem Kp.trans {e1 e2 e3 : VEnv} {σ1 σ2 σ3 : L2.St} (a : Kp e1 σ1 e2 σ2) (b : Kp e2 σ2 e3 σ3) : Kp e1 σ1 e3 σ3 := fun i o h => by
  obtain ⟨⟨o2, h2⟩, q⟩ := b i o h
  obtain ⟨h1, p⟩ := a i o2 h2
  exact ⟨h1, q.trans p⟩
def IsR (c : Cn) (F H : Hp) (σ : L2.St) (r : R) (v : V) (T : Set1) : Prop := match r with
  | .o x => RO c F H v x T
  | .b i => σ[i]? = some (some v) ∧ ∀ x, ¬ T x
structure Temps (c : Cn) (F : Hp) (S : Nat → Set1) (σ : L2.St) (H : Hp) (rs : List R) (vs : List V) (Ts : Nat → Set1) : Prop where
  len : vs.length = rs.length
  is : ∀ k r v, rs[k]? = some r → vs[k]? = some v → IsR c F H σ r v (Ts k)
  dis : ∀ i j x, Ts i x → Ts j x → i = j
  offS : ∀ k i x, Ts k x → ¬ S i x
  offF : ∀ k x, Ts k x → F x = none
  bd : ∀ k x, Ts k x → k < rs.length
section
variable {c : Cn} {F F1 F2 H H1 H2 : Hp} {S S1 S2 : Nat → Set1} {T T1 T2 : Set1} {σ : L2.St} {r : R} {v : V} {env : VEnv}
theorem IsR.own (h : IsR c F H σ r v T) : ∀ x, T x → ∃ u, H x = some u ∧ Mu u := by
  cases r with
  | o x => exact RO.own h
  | b i => exact fun x hx => absurd hx (h.2 x)
theorem IsR.up (h : IsR c F H σ r v T) (e : Same F F1) (k : ∀ x u, T x → H x = some u → H1 x = some u) : IsR c F1 H1 σ r v T := by
  cases r with
  | o x => exact RO.up h e k
  | b i => exact h
theorem Temps.own {rs : List R} {vs : List V} {Ts : Nat → Set1} (t : Temps c F S σ H rs vs Ts) {k : Nat} {x : Addr} (hx : Ts k x) : ∃ u, H x = some u ∧ Mu u := by
  obtain ⟨v, r, hv, hr⟩ := get_of_lt t.len (t.bd k x hx)
  exact (t.is k r v hr hv).own x hx
theorem Temps.go {rs : List R} {vs : List V} {Ts : Nat → Set1} {U : Set1} (t : Temps c F S σ H rs vs Ts) (g : Go F U H F1 S1 T H1) (hU : ∀ k x, Ts k x → ¬ U x) : Temps c F1 S1 σ H1 rs vs Ts ∧ ∀ k x, Ts k x → ¬ T x := by
  have keep : ∀ k x u, Ts k x → H x = some u → H1 x = some u := fun k x u hx hu => g.fr x u hu (hU k x hx)
  refine ⟨⟨t.len, fun k r v hr hv => (t.is k r v hr hv).up g.exF fun x u => keep k x u, t.dis, fun k i x hx hs => ?_, fun k x hx => ?_, t.bd⟩, fun k x hx ht => ?_⟩
  · obtain ⟨u, hu, _⟩ := t.own hx
    rcases g.nS i x hs with hj | hn
    · exact hU k x hx hj
    · rw [hn] at hu; cases hu
  · obtain ⟨u, hu, mu⟩ := t.own hx
    refine none_of_ne fun hn => ?_
    rcases g.nF x hn with h | hj | h | ⟨xs, h⟩
    · exact h (t.offF k x hx)
    · exact hU k x hx hj
    · rw [h] at hu; cases hu
    · rw [h] at hu; cases hu; exact mu
  · obtain ⟨u, hu, _⟩ := t.own hx
    rcases g.nT x ht with hj | hn
    · exact hU k x hx hj
    · rw [hn] at hu; cases hu
theorem Temps.offU {rs : List R} {vs : List V} {Ts : Nat → Set1} (t : Temps c F S σ H rs vs Ts) : ∀ k x, Ts k x → ¬ un S x := fun k x h ⟨i, hi⟩ => t.offS k i x h hi
theorem Temps.nil : Temps c F S σ H [] [] (fun _ => noT) := ⟨rfl, fun k r v h => by simp at h, fun i j x h => h.elim, fun k i x h => h.elim, fun k x h => h.elim, fun k x h => h.elim⟩
theorem Temps.one (i : IsR c F H σ r v T) (dS : ∀ i x, T x → ¬ S i x) (oF : ∀ x, T x → F x = none) : Temps c F S σ H [r] [v] (fun k x => k = 0 ∧ T x) := by
  refine ⟨rfl, fun k r' v' hr hv => ?_, fun i j x h h' => h.1.trans h'.1.symm, fun k i x h => dS i x h.2, fun k x h => oF x h.2, fun k x h => by rw [h.1]; exact Nat.zero_lt_one⟩
  cases k with
  | zero =>
    cases hr
    cases hv
    have e : (fun x => (0 : Nat) = 0 ∧ T x) = T := funext fun x => propext ⟨fun h => h.2, fun h => ⟨rfl, h⟩⟩
    rw [e]
    exact i
  | succ k => simp at hr
def catT (n : Nat) (A B : Nat → Set1) : Nat → Set1 := fun k x => if k < n then A k x else B (k - n) x
theorem Temps.cat {rs rs' : List R} {vs vs' : List V} {Ts Ts' : Nat → Set1} (t : Temps c F S σ H rs vs Ts) (t' : Temps c F S σ H rs' vs' Ts') (d : ∀ i j x, Ts i x → ¬ Ts' j x) :
    Temps c F S σ H (rs ++ rs') (vs ++ vs') (catT rs.length Ts Ts') := by
  have lv := t.len
  refine ⟨by rw [List.length_append, List.length_append, t.len, t'.len], fun k r v hr hv => ?_, fun i j x hi hj => ?_, fun k i x hx => ?_, fun k x hx => ?_, fun k x hx => ?_⟩
  · show IsR c F H σ r v (fun x => catT rs.length Ts Ts' k x)
    by_cases hk : k < rs.length
    · rw [List.getElem?_append_left hk] at hr
      rw [List.getElem?_append_left (by omega)] at hv
      have e : (fun x => catT rs.length Ts Ts' k x) = Ts k := funext fun x => by unfold catT; rw [if_pos hk]
      rw [e]
      exact t.is k r v hr hv
    · rw [List.getElem?_append_right (by omega)] at hr
      rw [List.getElem?_append_right (by omega)] at hv
      have e : (fun x => catT rs.length Ts Ts' k x) = Ts' (k - rs.length) := funext fun x => by unfold catT; rw [if_neg hk]
      rw [e]
      rw [t.len] at hv
      exact t'.is _ r v hr hv
  · unfold catT at hi hj
    split at hi
    · split at hj
      · exact t.dis i j x hi hj
      · exact absurd hj (d _ _ x hi)
    · split at hj
      · exact absurd hi (d _ _ x hj)
      · have := t'.dis _ _ x hi hj
        omega
  · unfold catT at hx
    split at hx
    · exact t.offS _ i x hx
    · exact t'.offS _ i x hx
  · unfold catT at hx
    split at hx
    · exact t.offF _ x hx
    · exact t'.offF _ x hx
  · unfold catT at hx
    rw [List.length_append]
    split at hx
    · omega
    · have := t'.bd _ x hx
      omega
theorem Go.rfl' {U : Set1} (hU : ∀ i x, S i x → U x) : Go F U H F S noT H := ⟨Same.rfl', fun _ _ h _ => h, fun i x h => .inl (hU i x h), fun x h => h.elim, fun x h => .inl h, fun i x h => h.elim, fun x h => h.elim⟩
theorem Go.rflS : Go F (un S) H F S noT H := Go.rfl' fun i x h => ⟨i, h⟩
theorem Go.trans {U U1 : Set1} (g1 : Go F U H F1 S1 T1 H1) (g2 : Go F1 U1 H1 F2 S2 T2 H2) (hU : ∀ x, U1 x → un S1 x ∨ T1 x) : Go F U H F2 S2 T2 H2 := by
  have back : ∀ x, (U1 x ∨ H1 x = none) → U x ∨ H x = none := fun x h => by
    rcases h with hj | hn
    · rcases hU x hj with ⟨j, hj⟩ | hj
      · exact g1.nS j x hj
      · exact g1.nT x hj
    · cases hx : H x with
      | none => exact .inr rfl
      | some u =>
        refine .inl ?_
        apply Classical.byContradiction
        intro h
        have := g1.fr x u hx h
        rw [hn] at this
        cases this
  refine ⟨fun a o h => g2.exF a o (g1.exF a o h), fun x u hu hs => ?_, fun i x h => back x (g2.nS i x h), fun x h => back x (g2.nT x h), fun x h => ?_, g2.dT, g2.oT⟩
  · refine g2.fr x u (g1.fr x u hu hs) fun hi => ?_
    rcases back x (.inl hi) with hj | hn
    · exact hs hj
    · rw [hn] at hu; cases hu
  · rcases g2.nF x h with h | hj | h | ⟨xs, h⟩
    · exact g1.nF x h
    · rcases back x (.inl hj) with q | q
      · exact .inr (.inl q)
      · exact .inr (.inr (.inl q))
    · rcases back x (.inr h) with q | q
      · exact .inr (.inl q)
      · exact .inr (.inr (.inl q))
    · cases hx : H x with
      | none => exact .inr (.inr (.inl rfl))
      | some u =>
        by_cases hs : U x
        · exact .inr (.inl hs)
        · have := g1.fr x u hx hs
          rw [h] at this
          cases this
          exact .inr (.inr (.inr ⟨xs, rfl⟩))
theorem Go.transS {U : Set1} (g1 : Go F U H F1 S1 T1 H1) (g2 : Go F1 (un S1) H1 F2 S2 T2 H2) : Go F U H F2 S2 T2 H2 := g1.trans g2 fun x h => .inl h
theorem Go.add {U U1 T' : Set1} (g1 : Go F U H F1 S1 T1 H1) (g2 : Go F1 U1 H1 F2 S2 T2 H2) (hU : ∀ x, U1 x → un S1 x ∨ T1 x) (hT : ∀ x, T' x → T1 x ∨ T2 x) (o1 : ∀ x, T1 x → F2 x = none) (d1 : ∀ i x, T1 x → ¬ S2 i x) : Go F U H F2 S2 T' H2 := by
  have g := g1.trans g2 hU
  refine ⟨g.exF, g.fr, g.nS, fun x h => ?_, g.nF, fun i x h => ?_, fun x h => ?_⟩
  · rcases hT x h with h | h
    · exact g1.nT x h
    · exact g.nT x h
  · rcases hT x h with h | h
    · exact d1 i x h
    · exact g.dT i x h
  · rcases hT x h with h | h
    · exact o1 x h
    · exact g.oT x h
theorem Go.sub {U T' : Set1} (g : Go F U H F1 S1 T H1) (h : ∀ x, T' x → T x) : Go F U H F1 S1 T' H1 :=
  ⟨g.exF, g.fr, g.nS, fun x hx => g.nT x (h x hx), g.nF, fun i x hx => g.dT i x (h x hx), fun x hx => g.oT x (h x hx)⟩
end
def Thrown (c : Cn) (F H : Hp) (e : Exc) (cls : Value) (d : Option Addr) : Prop :=
  ∃ C, c.mg (c.nm e.c) = some (.ref C) ∧ cls = .ref C ∧ (e.fs = [] ∨ ∃ (a : Addr) (fs : List (Str × V)), d = some a ∧ H a = some (.xd fs) ∧ F a = none ∧ fs.length = e.fs.length ∧
    (∀ (k : Nat) (f : Str × V) (d : Nat × D), fs[k]? = some f → e.fs[k]? = some d → f.1 = c.nm d.1) ∧
    (∀ (k : Nat) (f : Str × V) (d : Nat × D), fs[k]? = some f → e.fs[k]? = some d → Rep c F f.2 d.2))
def EndX (c : Cn) (W : WX) (F : Hp) (S : Nat → Set1) (env : VEnv) (σ : L2.St) (H : Hp) (e : Exc) (env' : VEnv) : Prop :=
  ∀ F' S' H' cls d, Go F (un S) H F' S' noT H' → Hold c F' S' env' σ H' → Kp env σ env' σ → Thrown c F' H' e cls d → W cls d σ H'
def tV (c : Cn) (W : WX) (f : EV) : TE := fun σ H Q => ∃ F S env, Hold c F S env σ H ∧ ∃ res, f env = some res ∧ match res with
  | .ok r env' => ∀ F' S' T v H', Go F (un S) H F' S' T H' → Hold c F' S' env' σ H' → Kp env σ env' σ → IsR c F' H' σ r v T → Q v H'
  | .ex e env' => EndX c W F S env σ H e env'
def tVT (c : Cn) (W : WX) (f : M Bool) : TT := fun σ H Q => ∃ F S env, Hold c F S env σ H ∧ ∃ res, f env = some res ∧ match res with
  | .ok b env' => ∀ F' S' H', Go F (un S) H F' S' noT H' → Hold c F' S' env' σ H' → Kp env σ env' σ → Q b H'
  | .ex e env' => EndX c W F S env σ H e env'
def tVA (c : Cn) (W : WX) (f : M (List R)) : TA := fun σ H Q => ∃ F S env, Hold c F S env σ H ∧ ∃ res, f env = some res ∧ match res with
  | .ok rs env' => ∀ F' S' Ts vs H', Go F (un S) H F' S' (un Ts) H' → Hold c F' S' env' σ H' → Kp env σ env' σ → Temps c F' S' σ H' rs vs Ts → Q vs H'
  | .ex e env' => EndX c W F S env σ H e env'
end VS
namespace VS
open PySem L2
theorem PE_imp {X : Cx} {e : Expr} {t t' : TE} (h : PE X e t) (i : ∀ σ H Q, t' σ H Q → t σ H Q) : PE X e t' := ⟨fun pins s σ H Q I q => h.run pins s σ H Q I (i σ H Q q)⟩
theorem PT_imp {X : Cx} {e : Expr} {t t' : TT} (h : PT X e t) (i : ∀ σ H Q, t' σ H Q → t σ H Q) : PT X e t' := ⟨fun pins s σ H Q I q => h.run pins s σ H Q I (i σ H Q q)⟩
theorem PW_imp {X : Cx} {e : Expr} {t t' : TT} (h : PW X e t) (i : ∀ σ H Q, t' σ H Q → t σ H Q) : PW X e t' := ⟨fun wh pins s σ H Q I q => h.run wh pins s σ H Q I (i σ H Q q)⟩
theorem PA_imp {X : Cx} {e : List Expr} {t t' : TA} (h : PA X e t) (i : ∀ σ H Q, t' σ H Q → t σ H Q) : PA X e t' := ⟨fun pos pins s σ H Q I q => h.run pos pins s σ H Q I (i σ H Q q)⟩
theorem PS_imp {X : Cx} {e : Stmt} {t t' : TS} (h : PS X e t) (i : ∀ D σ H, t' D σ H → t D σ H) : PS X e t' := ⟨fun pins s σ H D I q => h.run pins s σ H D I (i D σ H q)⟩
theorem PSs_imp {X : Cx} {e : List Stmt} {t t' : TS} (h : PSs X e t) (i : ∀ D σ H, t' D σ H → t D σ H) : PSs X e t' := ⟨fun pins s σ H D I q => h.run pins s σ H D I (i D σ H q)⟩
theorem PE_or {X : Cx} {e : Expr} {t t' : TE} (h : PE X e t) (h' : PE X e t') : PE X e (fun σ H Q => t σ H Q ∨ t' σ H Q) := ⟨fun pins s σ H Q I q => q.elim (h.run pins s σ H Q I) (h'.run pins s σ H Q I)⟩
theorem OpR_or {X : Cx} {f : Value → Value → Sem Value} {r r' : R2} (h : OpR X f r) (h' : OpR X f r') : OpR X f (fun x y H Q => r x y H Q ∨ r' x y H Q) :=
  fun pins s σ H x y v u Q I a b q => q.elim (h pins s σ H x y v u Q I a b) (h' pins s σ H x y v u Q I a b)
theorem CallR_or {X : Cx} {f : Value} {r r' : List V → Hp → VK → Prop} (h : CallR X f r) (h' : CallR X f r') : CallR X f (fun x H Q => r x H Q ∨ r' x H Q) :=
  fun pins s σ H v u Q I a q => q.elim (h pins s σ H v u Q I a) (h' pins s σ H v u Q I a)
theorem IxR_or {X : Cx} {r r' : R2} (h : IxR X r) (h' : IxR X r') : IxR X (fun x y H Q => r x y H Q ∨ r' x y H Q) := by
  intro e1 e2 pins s σ H x y v u Q I a b q e
  rcases q with q | q
  · exact h e1 e2 pins s σ H x y v u Q I a b q e
  · exact h' e1 e2 pins s σ H x y v u Q I a b q e
variable {c : Cn} {W : WX} {F F1 F2 H H1 H2 : Hp} {S S1 S2 : Nat → Set1} {T T1 T2 : Set1} {σ : L2.St} {r : R} {v : V} {env : VEnv} {Q : VK} {fa fb : EV}
theorem tV_mono {f : EV} {Q Q' : VK} (h : tV c W f σ H Q) (i : ∀ v H, Q v H → Q' v H) : tV c W f σ H Q' := by
  obtain ⟨F, S, env, hh, res, e, q⟩ := h
  refine ⟨F, S, env, hh, res, e, ?_⟩
  cases res with
  | ok r env' => exact fun F' S' T v H' g h k is => i _ _ (q F' S' T v H' g h k is)
  | ex x env' => exact q
theorem EndX_go (g : Go F (un S) H F1 S1 T H1) {env1 env' : VEnv} {e : Exc} (k : Kp env σ env1 σ) (h : EndX c W F S env σ H e env') : EndX c W F1 S1 env1 σ H1 e env' :=
  fun F' S' H' cls d g' hh k' th => h F' S' H' cls d (g.transS g') hh (k.trans k') th
theorem args_nil {Q : List V → Hp → Prop} (h : tVA c W (eArgs []) σ H Q) : tNil σ H Q := by
  obtain ⟨F, S, env, hh, res, e, q⟩ := h
  cases e
  exact q F S (fun _ => noT) [] H (Go.rflS.sub fun x hx => hx.elim fun k h => h) hh Kp.rfl' Temps.nil
theorem bind_some {α β : Type} {m : M α} {k : α → M β} {res : Res β} (h : M.bind m k env = some res) : (∃ a e, m env = some (.ok a e) ∧ k a e = some res) ∨ (∃ x e, m env = some (.ex x e) ∧ res = .ex x e) := by
  unfold M.bind at h
  cases hm : m env with
  | none => rw [hm] at h; cases h
  | some r =>
    rw [hm] at h
    cases r with
    | ok a e => exact .inl ⟨a, e, rfl, h⟩
    | ex x e => cases h; exact .inr ⟨x, e, rfl, rfl⟩
theorem args_cons {as : List EV} {Q : List V → Hp → Prop} (h : tVA c W (eArgs (fa :: as)) σ H Q) : tCons (tV c W fa) (tVA c W (eArgs as)) σ H Q := by
  obtain ⟨F, S, env, hh, res, e, q⟩ := h
  rcases bind_some e with ⟨r, e1, ha, e⟩ | ⟨x, e1, ha, rfl⟩
  · refine ⟨F, S, env, hh, _, ha, fun F1 S1 T1 v1 H1 g1 h1 k1 is1 => ?_⟩
    rcases bind_some e with ⟨rs, e2, hb, e⟩ | ⟨x, e2, hb, rfl⟩
    · cases e
      refine ⟨F1, S1, e1, h1, _, hb, fun F2 S2 Ts vs H2 g2 h2 k2 t2 => ?_⟩
      have t1 : Temps c F1 S1 σ H1 [r] [v1] _ := Temps.one is1 g1.dT g1.oT
      obtain ⟨t1', d12⟩ := t1.go g2 t1.offU
      refine q F2 S2 _ (v1 :: vs) H2 ?_ h2 (k1.trans k2) (t1'.cat t2 fun i j x hi hj => d12 i x hi ⟨j, hj⟩)
      refine g1.add g2 (fun x h => .inl h) (fun x ⟨k, hx⟩ => ?_) (fun x hx => t1'.offF 0 x ⟨rfl, hx⟩) (fun i x hx => t1'.offS 0 i x ⟨rfl, hx⟩)
      unfold catT at hx
      split at hx
      · exact .inl hx.2
      · exact .inr ⟨_, hx⟩
    · exact ⟨F1, S1, e1, h1, _, hb, EndX_go g1 k1 q⟩
  · exact ⟨F, S, env, hh, _, ha, q⟩
def Op (c : Cn) (rr : List V → Hp → VK → Prop) (g : List R → VEnv → Option (R × VEnv)) : Prop :=
  ∀ F S env σ H rs vs Ts r' env' Q, Hold c F S env σ H → Temps c F S σ H rs vs Ts → g rs env = some (r', env') →
    (∀ F' S' T v H', Go F (fun x => un S x ∨ un Ts x) H F' S' T H' → Hold c F' S' env' σ H' → Kp env σ env' σ → IsR c F' H' σ r' v T → Q v H') → rr vs H Q
def R2L (r : R2) : List V → Hp → VK → Prop := fun vs H Q => ∃ x y, vs = [x, y] ∧ r x y H Q
def R1L (r : V → Hp → VK → Prop) : List V → Hp → VK → Prop := fun vs H Q => ∃ x, vs = [x] ∧ r x H Q
theorem op_args {rr : List V → Hp → VK → Prop} {g : List R → VEnv → Option (R × VEnv)} {m : M (List R)} (ho : Op c rr g) (h : tV c W (eOp g m) σ H Q) : tVA c W m σ H (fun vs H1 => rr vs H1 Q) := by
  obtain ⟨F, S, env, hh, res, e, q⟩ := h
  unfold eOp at e
  cases hm : m env with
  | none => rw [hm] at e; cases e
  | some rr' =>
    rw [hm] at e
    cases rr' with
    | ex x e1 =>
      cases e
      exact ⟨F, S, env, hh, _, hm, q⟩
    | ok rs e1 =>
      simp only [Option.map_eq_some_iff] at e
      obtain ⟨⟨r', e2⟩, hg, rfl⟩ := e
      refine ⟨F, S, env, hh, _, hm, fun F1 S1 Ts vs H1 g1 h1 k1 t1 => ?_⟩
      exact ho F1 S1 e1 σ H1 rs vs Ts r' e2 Q h1 t1 hg fun F2 S2 T v H2 g2 h2 k2 is2 => q F2 S2 T v H2 (g1.trans g2 fun x h => h) h2 (k1.trans k2) is2
theorem op2_ok {r : R2} {g : List R → VEnv → Option (R × VEnv)} (ho : Op c (R2L r) g) (h : tV c W (eOp2 g fa fb) σ H Q) : tOp r (tV c W fa) (tV c W fb) σ H Q := by
  refine tV_mono (args_cons (op_args ho h)) fun x H1 h1 => ?_
  refine tV_mono (args_cons h1) fun y H2 h2 => ?_
  obtain ⟨x', y', e, q⟩ := args_nil h2
  cases e
  exact q
theorem op1_ok {r : V → Hp → VK → Prop} {g : List R → VEnv → Option (R × VEnv)} (ho : Op c (R1L r) g) (h : tV c W (eOp1 g fa) σ H Q) : tUn r (tV c W fa) σ H Q := by
  refine tV_mono (args_cons (op_args ho h)) fun x H1 h1 => ?_
  obtain ⟨x', e, q⟩ := args_nil h1
  cases e
  exact q
theorem opN_ok {rr : List V → Hp → VK → Prop} {g : List R → VEnv → Option (R × VEnv)} {m : M (List R)} (ho : Op c rr g) (h : tV c W (eOp g m) σ H Q) : tCB rr (tVA c W m) σ H Q := op_args ho h
section
variable {X : Cx}
theorem v_var {i : Nat} {x : Str} {pos : Pos} (h : PE X (.Name x pos) (tVar i)) : PE X (.Name x pos) (tV c W (eVar i)) := PE_imp h fun σ H Q h => by
  obtain ⟨F, S, env, hh, res, e, q⟩ := h
  unfold eVar at e
  cases ha : env.at i with
  | none => rw [ha] at e; cases e
  | some o =>
    rw [ha] at e
    obtain ⟨v, hv, ro⟩ := hh.cell i o ha
    refine ⟨v, hv, ?_⟩
    have go : Go F (un S) H F S noT H := Go.rflS
    cases o with
    | val d =>
      cases e
      refine q F S noT v H go hh Kp.rfl' ?_
      cases ro with
      | val hr hn => exact RO.val hr fun x h => h
    | lst os => cases e; exact q F S noT v H go hh Kp.rfl' ⟨hv, fun x h => h⟩
    | tup os => cases e; exact q F S noT v H go hh Kp.rfl' ⟨hv, fun x h => h⟩
    | dct t os => cases e; exact q F S noT v H go hh Kp.rfl' ⟨hv, fun x h => h⟩
    | ins t os => cases e; exact q F S noT v H go hh Kp.rfl' ⟨hv, fun x h => h⟩
theorem v_const {e : Expr} {v : V} {d : D} (h : PE X e (tC v)) (hr : ∀ F, Rep c F v d) : PE X e (tV c W (eC d)) := PE_imp h fun σ H Q h => by
  obtain ⟨F, S, env, hh, res, e, q⟩ := h
  cases e
  exact q F S noT v H Go.rflS hh Kp.rfl' (RO.val (hr F) fun x h => h)
theorem v_int {i : Int} {j pos} : PE X (.Constant (.int i) j pos) (tV c W (eC (.int i))) := v_const pe_int fun F => .int i
theorem v_bl {i : Bool} {j pos} : PE X (.Constant (.bool i) j pos) (tV c W (eC (.bl i))) := v_const pe_bl fun F => .bl i
theorem v_non {j pos} : PE X (.Constant .none j pos) (tV c W (eC .non)) := v_const pe_non fun F => .non
theorem v_str {x : Str} {s : List Nat} {j pos} (h : x = ⟨s.toArray⟩ := by decide +kernel) : PE X (.Constant (.str x) j pos) (tV c W (eC (.str s))) := by
  subst h
  exact v_const pe_str fun F => .str s
end
theorem IsR.get (hh : Hold c F S env σ H) (h : IsR c F H σ r v T) {o : O} (ho : r.own env = some o) : ∃ T', RO c F H v o T' := by
  cases r with
  | o x => cases ho; exact ⟨T, h⟩
  | b i =>
    obtain ⟨v', hv, ro⟩ := hh.cell i o ho
    rw [h.1] at hv
    cases hv
    exact ⟨_, ro⟩
theorem IsR.rep (hh : Hold c F S env σ H) (h : IsR c F H σ r v T) {d : D} (hd : r.data env = some d) : Rep c H v d := by
  unfold R.data at hd
  cases ho : r.own env with
  | none => rw [ho] at hd; cases hd
  | some o =>
    rw [ho] at hd
    cases hd
    obtain ⟨T', ro⟩ := h.get hh ho
    exact ro.rep hh.ex fun x u _ hx => hx
def scV : D → Option V
  | .non => some .non
  | .bl b => some (.bl b)
  | .int i => some (.int i)
  | .str s => some (SV s)
  | _ => none
theorem scV_rep {d : D} {v : V} (h : scV d = some v) (F : Hp) : Rep c F v d := by
  cases d <;> cases h
  · exact .non
  · exact .bl _
  · exact .int _
  · exact .str _
theorem mapM_get {α β : Type} {f : α → Option β} : ∀ {l : List α} {m : List β}, l.mapM f = some m → m.length = l.length ∧ ∀ (k : Nat) (x : α) (y : β), l[k]? = some x → m[k]? = some y → f x = some y
  | [], m, h => by
    simp at h
    subst h
    exact ⟨rfl, fun k x y h => by simp at h⟩
  | a :: l, m, h => by
    rw [List.mapM_cons] at h
    obtain ⟨b, hb, h⟩ := Option.bind_eq_some_iff.mp h
    obtain ⟨r, hr, h⟩ := Option.bind_eq_some_iff.mp h
    cases h
    obtain ⟨h1, h2⟩ := mapM_get hr
    refine ⟨by simp [h1], fun k x y hx hy => ?_⟩
    cases k with
    | zero => cases hx; cases hy; exact hb
    | succ k => exact h2 k x y hx hy
theorem op_scal {rr : List V → Hp → VK → Prop} {f : List D → Option D} (h : ∀ (H : Hp) (vs : List V) (ds : List D) (d : D) (Q : VK), vs.length = ds.length → (∀ (k : Nat) v d, vs[k]? = some v → ds[k]? = some d → Rep c H v d) → f ds = some d → (∃ v, scV d = some v ∧ (Q v H → rr vs H Q))) :
    Op c rr (opS f) := by
  intro F S env σ H rs vs Ts r' env' Q hh t hg q
  unfold opS at hg
  simp only [Option.map_eq_some_iff, Option.bind_eq_some_iff] at hg
  obtain ⟨d, ⟨ds, hm, hf⟩, e⟩ := hg
  cases e
  obtain ⟨hl, hg⟩ := mapM_get hm
  obtain ⟨v, hv, i⟩ := h H vs ds d Q (by rw [t.len, hl]) (fun k v d hv hd => by
    obtain ⟨r, d', hr, hd'⟩ := get_of_lt hl.symm (List.getElem?_eq_some_iff.mp hd).1
    exact (t.is k r v hr hv).rep hh (hg k r d hr hd)) hf
  refine i (q F S noT v H (Go.rfl' fun i x hx => .inl ⟨i, hx⟩) hh Kp.rfl' (RO.val (scV_rep hv F) fun x h => h))
end VS
namespace VS
open PySem L2
variable {c : Cn} {W : WX} {F F' F1 F2 H H' H1 H2 : Hp} {S S' S1 S2 : Nat → Set1} {T T' T1 T2 : Set1} {σ σ' : L2.St} {r : R} {v : V} {env env' : VEnv} {Q : VK} {fa fb : EV}
def setS (S : Nat → Set1) (i : Nat) (T : Set1) : Nat → Set1 := fun j => if j = i then T else S j
theorem setS_at {i : Nat} : setS S i T i = T := if_pos rfl
theorem setS_ne {i j : Nat} (h : j ≠ i) : setS S i T j = S j := if_neg h
theorem at_of_get {i : Nat} (h : env'[i]? = env[i]?) : env'.at i = env.at i := by unfold VEnv.at; rw [h]
theorem Hold.one {i : Nat} (hh : Hold c F S env σ H) (eF : Same F F') (eH : Same F' H') (keep : ∀ j x u, j ≠ i → S j x → H x = some u → H' x = some u) (offF : ∀ j x, j ≠ i → S j x → F' x = none)
    (le : env'.length = env.length) (ls : σ'.length = σ.length) (ge : ∀ j, j ≠ i → env'[j]? = env[j]?) (gs : ∀ j, j ≠ i → σ'[j]? = σ[j]?)
    (cell : ∀ o', env'.at i = some o' → ∃ v, σ'[i]? = some (some v) ∧ RO c F' H' v o' T) (dd : ∀ x, T x → ∃ o', env'.at i = some o') (dT : ∀ j x, j ≠ i → T x → ¬ S j x) (oT : ∀ x, T x → F' x = none) :
    Hold c F' (setS S i T) env' σ' H' := by
  refine ⟨eH, by rw [le, ls, hh.len], fun j o ho => ?_, fun j k x hj hk => ?_, fun j x hj => ?_, fun j x hj => ?_⟩
  · by_cases e : j = i
    · subst e
      rw [setS_at]
      exact cell o ho
    · rw [at_of_get (ge j e)] at ho
      obtain ⟨v, hv, ro⟩ := hh.cell j o ho
      rw [setS_ne e, gs j e]
      exact ⟨v, hv, ro.up eF fun x u hx hu => keep j x u e hx hu⟩
  · by_cases e : j = i <;> by_cases e2 : k = i
    · omega
    · subst e
      rw [setS_at] at hj
      rw [setS_ne e2] at hk
      exact absurd hk (dT k x e2 hj)
    · subst e2
      rw [setS_at] at hk
      rw [setS_ne e] at hj
      exact absurd hj (dT j x e hk)
    · rw [setS_ne e] at hj
      rw [setS_ne e2] at hk
      exact hh.dis j k x hj hk
  · by_cases e : j = i
    · subst e
      rw [setS_at] at hj
      exact oT x hj
    · rw [setS_ne e] at hj
      exact offF j x e hj
  · by_cases e : j = i
    · subst e
      rw [setS_at] at hj
      exact dd x hj
    · rw [setS_ne e] at hj
      rw [at_of_get (ge j e)]
      exact hh.dead j x hj
theorem Hold.heap (hh : Hold c F S env σ H) (eF : Same F F') (eH : Same F' H') (keep : ∀ j x u, S j x → H x = some u → H' x = some u) (offF : ∀ j x, S j x → F' x = none) : Hold c F' S env σ H' :=
  ⟨eH, hh.len, fun j o ho => by
    obtain ⟨v, hv, ro⟩ := hh.cell j o ho
    exact ⟨v, hv, ro.up eF fun x u hx hu => keep j x u hx hu⟩, hh.dis, offF, hh.dead⟩
theorem Hold.own (hh : Hold c F S env σ H) {j : Nat} {x : Addr} (h : S j x) : ∃ u, H x = some u ∧ Mu u := by
  obtain ⟨o, ho⟩ := hh.dead j x h
  obtain ⟨v, _, ro⟩ := hh.cell j o ho
  exact ro.own x h
theorem at_lt {i : Nat} {o : O} (h : env.at i = some o) : i < env.length := by
  apply Classical.byContradiction
  intro hn
  unfold VEnv.at at h
  rw [List.getElem?_eq_none (by omega)] at h
  cases h
theorem at_loc {i : Nat} {o : O} (h : env[i]? = some (Cell.loc o)) : env.at i = some o := by unfold VEnv.at; rw [h]
theorem at_par {i : Nat} {o : O} (h : env[i]? = some (Cell.par o)) : env.at i = some o := by unfold VEnv.at; rw [h]
theorem put_len {i : Nat} {o : O} : (env.put i o).length = env.length := by unfold VEnv.put; split <;> simp
theorem put_ne {i j : Nat} {o : O} (h : j ≠ i) : (env.put i o)[j]? = env[j]? := by
  unfold VEnv.put
  split <;> exact List.getElem?_set_ne (Ne.symm h)
theorem put_at {i : Nat} {o : O} (h : i < env.length) : (env.put i o).at i = some o := by
  unfold VEnv.put
  split
  · exact at_par (List.getElem?_set_self h)
  · exact at_loc (List.getElem?_set_self h)
theorem Kp_put {i : Nat} {o : O} : Kp env σ (env.put i o) σ := fun j o' h => by
  by_cases e : j = i
  · subst e
    unfold VEnv.put at h
    split at h
    · rename_i q hq
      exact ⟨⟨_, hq⟩, rfl⟩
    · by_cases hl : j < env.length
      · rw [List.getElem?_set_self hl] at h; cases h
      · rw [List.getElem?_eq_none (by simp; omega)] at h; cases h
  · rw [put_ne e] at h
    exact ⟨⟨o', h⟩, rfl⟩
theorem Kp_setloc {i : Nat} {o : O} : Kp env σ (env.set i (.loc o)) σ := fun j o' h => by
  by_cases e : j = i
  · subst e
    by_cases hl : j < env.length
    · rw [List.getElem?_set_self hl] at h; cases h
    · rw [List.getElem?_eq_none (by simp; omega)] at h; cases h
  · rw [List.getElem?_set_ne (Ne.symm e)] at h
    exact ⟨⟨o', h⟩, rfl⟩
theorem Hold.freeze {i : Nat} {o : O} (hh : Hold c F S env σ H) (h : env[i]? = some (Cell.loc o)) :
    ∃ F', Hold c F' (setS S i noT) (env.set i (.loc (.val o.data))) σ H ∧ Go F (un S) H F' (setS S i noT) noT H ∧ (∀ x, S i x → F' x = H x) ∧ (∀ x, ¬ S i x → F' x = F x) := by
  have ha := at_loc h
  have il := at_lt ha
  obtain ⟨v, hv, ro⟩ := hh.cell i o ha
  obtain ⟨F', hF1, hF2⟩ : ∃ F' : Hp, (∀ x, S i x → F' x = H x) ∧ (∀ x, ¬ S i x → F' x = F x) := by
    refine ⟨fun x => @ite _ (S i x) (Classical.propDecidable _) (H x) (F x), fun x hx => ?_, fun x hx => ?_⟩
    · exact if_pos hx
    · exact if_neg hx
  have eF : Same F F' := fun a u e => by
    rw [hF2 a fun hs => by rw [hh.off i a hs] at e; cases e]
    exact e
  have eH : Same F' H := fun a u e => by
    by_cases hs : S i a
    · rw [hF1 a hs] at e; exact e
    · rw [hF2 a hs] at e; exact hh.ex a u e
  refine ⟨F', ?_, ⟨eF, fun x u hu _ => hu, fun j x hx => ?_, fun x hx => hx.elim, fun x hx => ?_, fun j x hx => hx.elim, fun x hx => hx.elim⟩, hF1, hF2⟩
  · refine hh.one (T := noT) eF eH (fun j x u _ _ hu => hu) (fun j x hj hs => ?_) (by simp) rfl (fun j hj => List.getElem?_set_ne (Ne.symm hj)) (fun _ _ => rfl) (fun o' ho' => ?_) (fun x hx => hx.elim) (fun j x _ hx => hx.elim) (fun x hx => hx.elim)
    · rw [hF2 x fun hi => hj (hh.dis j i x hs hi)]
      exact hh.off j x hs
    · have e : o' = .val o.data := by
        rw [at_loc (List.getElem?_set_self il)] at ho'
        exact (Option.some.inj ho').symm
      subst e
      exact ⟨v, hv, .val (ro.rep eF fun x u hx hu => by rw [hF1 x hx]; exact hu) fun x hx => hx⟩
  · by_cases e : j = i
    · subst e; rw [setS_at] at hx; exact hx.elim
    · rw [setS_ne e] at hx; exact .inl ⟨j, hx⟩
  · by_cases hs : S i x
    · exact .inr (.inl ⟨i, hs⟩)
    · rw [hF2 x hs] at hx; exact .inl hx
theorem settle_ok {rs : List R} {vs : List V} {Ts : Nat → Set1} {os : List O} : ∀ {rs0 : List R} {vs0 : List V}, Hold c F S env σ H → Temps c F S σ H (rs0 ++ rs) (vs0 ++ vs) Ts → vs0.length = rs0.length → (∀ r ∈ rs0, ∃ o, r = .o o) → settles rs env = some (os, env') →
    ∃ F' S', Hold c F' S' env' σ H ∧ Temps c F' S' σ H (rs0 ++ os.map R.o) (vs0 ++ vs) Ts ∧ Go F (un S) H F' S' noT H ∧ Kp env σ env' σ := by
  induction rs generalizing F S env vs os with
  | nil =>
    intro rs0 vs0 hh t hl hr hs
    cases hs
    exact ⟨F, S, hh, t, Go.rflS, Kp.rfl'⟩
  | cons r rs ih =>
    intro rs0 vs0 hh t hl hr hs
    unfold settles at hs
    cases vs with
    | nil =>
      have := t.len
      simp at this
      omega
    | cons v vs =>
      cases e1 : r.settle env with
      | none => rw [e1] at hs; cases hs
      | some p =>
        obtain ⟨o, en1⟩ := p
        rw [e1] at hs
        simp only at hs
        cases e2 : settles rs en1 with
        | none => rw [e2] at hs; cases hs
        | some p2 =>
          obtain ⟨os2, en2⟩ := p2
          rw [e2] at hs
          cases hs
          have key : ∃ F' S', Hold c F' S' en1 σ H ∧ Temps c F' S' σ H ((rs0 ++ [R.o o]) ++ rs) ((vs0 ++ [v]) ++ vs) Ts ∧ Go F (un S) H F' S' noT H ∧ Kp env σ en1 σ := by
            cases r with
            | o x =>
              cases e1
              exact ⟨F, S, hh, by rw [List.append_assoc, List.append_assoc]; exact t, Go.rflS, Kp.rfl'⟩
            | b i =>
              simp only [R.settle] at e1
              cases hc : env[i]? with
              | none => rw [hc] at e1; cases e1
              | some cl =>
                rw [hc] at e1
                cases cl with
                | no => cases e1
                | par o => cases e1
                | loc o' =>
                  cases e1
                  obtain ⟨F', hh', g, q1, q2⟩ := hh.freeze hc
                  obtain ⟨t', _⟩ := t.go g t.offU
                  refine ⟨F', _, hh', ?_, g, Kp_setloc⟩
                  rw [List.append_assoc, List.append_assoc]
                  refine ⟨by have := t'.len; simp at this ⊢; omega, fun k r w hr' hw => ?_, t'.dis, t'.offS, t'.offF, fun k x hx => by have := t'.bd k x hx; simp at this ⊢; omega⟩
                  by_cases hk : k = rs0.length
                  · subst hk
                    have hw' : (vs0 ++ ([v] ++ vs))[rs0.length]? = some v := by
                      rw [← hl, List.getElem?_append_right (Nat.le_refl _)]
                      simp
                    have hr2 : (rs0 ++ ([R.o (O.val o'.data)] ++ rs))[rs0.length]? = some (R.o (O.val o'.data)) := by
                      rw [List.getElem?_append_right (Nat.le_refl _)]
                      simp
                    rw [hw'] at hw
                    rw [hr2] at hr'
                    cases hw
                    cases hr'
                    have is := t'.is rs0.length (.b i) v (by rw [List.getElem?_append_right (Nat.le_refl _)]; simp) hw'
                    obtain ⟨v2, hv2, ro2⟩ := hh'.cell i _ (at_loc (List.getElem?_set_self (at_lt (at_loc hc))))
                    rw [is.1] at hv2
                    cases hv2
                    cases ro2 with
                    | val rp _ => exact RO.val rp is.2
                  · refine t'.is k r w ?_ hw
                    by_cases hk2 : k < rs0.length
                    · rw [List.getElem?_append_left hk2] at hr' ⊢
                      exact hr'
                    · rw [List.getElem?_append_right (by omega)] at hr' ⊢
                      obtain ⟨m, hm⟩ : ∃ m, k - rs0.length = m + 1 := ⟨k - rs0.length - 1, by omega⟩
                      rw [hm] at hr' ⊢
                      simpa using hr'
          obtain ⟨F1, S1, h1, t1, g1, k1⟩ := key
          obtain ⟨F2, S2, h2, t2, g2, k2⟩ := ih (rs0 := rs0 ++ [R.o o]) (vs0 := vs0 ++ [v]) h1 t1 (by simp [hl]) (fun r hr' => by
            rcases List.mem_append.mp hr' with q | q
            · exact hr r q
            · exact ⟨o, by simpa using q⟩) e2
          refine ⟨F2, S2, h2, ?_, g1.transS g2, k1.trans k2⟩
          rw [List.append_assoc, List.append_assoc] at t2
          exact t2
theorem settles_ok {rs : List R} {vs : List V} {Ts : Nat → Set1} {os : List O} (hh : Hold c F S env σ H) (t : Temps c F S σ H rs vs Ts) (hs : settles rs env = some (os, env')) :
    ∃ F' S', Hold c F' S' env' σ H ∧ Temps c F' S' σ H (os.map R.o) vs Ts ∧ Go F (un S) H F' S' noT H ∧ Kp env σ env' σ := settle_ok (rs0 := []) (vs0 := []) hh t rfl (fun r h => by cases h) hs
theorem new_lst {os : List O} {vs : List V} {Ts : Nat → Set1} {p : Addr} (hh : Hold c F S env σ H) (t : Temps c F S σ H (os.map R.o) vs Ts) (hp : H p = none) :
    Go F (fun x => un S x ∨ un Ts x) H F S (fun x => x = p ∨ un Ts x) (upd H p (.lst vs)) ∧ Hold c F S env σ (upd H p (.lst vs)) ∧ RO c F (upd H p (.lst vs)) (.ref p) (.lst os) (fun x => x = p ∨ un Ts x) := by
  have sm : ∀ x u, H x = some u → upd H p (.lst vs) x = some u := fun x u e => by rw [upd_ne (ne_of_none e hp)]; exact e
  have Fp : F p = none := by
    cases e : F p with
    | none => rfl
    | some u => rw [hh.ex p u e] at hp; cases hp
  have Sp : ∀ j, ¬ S j p := fun j h => by
    obtain ⟨u, hu, _⟩ := hh.own h
    rw [hu] at hp; cases hp
  have Tp : ∀ j, ¬ Ts j p := fun j h => by
    obtain ⟨u, hu, _⟩ := t.own h
    rw [hu] at hp; cases hp
  refine ⟨⟨Same.rfl', fun x u e _ => sm x u e, fun i x h => .inl (.inl ⟨i, h⟩), fun x h => ?_, fun x h => .inl h, fun i x h hs => ?_, fun x h => ?_⟩, hh.heap Same.rfl' (fun a u e => sm a u (hh.ex a u e)) (fun j x u _ e => sm x u e) hh.off, ?_⟩
  · rcases h with rfl | h
    · exact .inr hp
    · exact .inl (.inr h)
  · rcases h with rfl | ⟨k, h⟩
    · exact Sp i hs
    · exact t.offS k i x h hs
  · rcases h with rfl | ⟨k, h⟩
    · exact Fp
    · exact t.offF k x h
  · have hl : vs.length = os.length := by have := t.len; simpa using this
    refine .lst Ts upd_same hl (fun k v o hv ho => ?_) t.dis (fun k x hx => ⟨fun e => Tp k (e ▸ hx), by have := t.bd k x hx; simpa using this⟩) fun x => Iff.rfl
    have := t.is k (.o o) v (by simp [ho]) hv
    exact RO.up this Same.rfl' fun x u _ e => sm x u e
theorem vals_spec : ∀ {os : List O} {ds : List D}, vals os = some ds → os = ds.map O.val
  | [], ds, h => by cases h; rfl
  | .val d :: os, ds, h => by
    unfold vals at h
    obtain ⟨r, hr, rfl⟩ := Option.map_eq_some_iff.mp h
    rw [vals_spec hr]
    rfl
  | .lst _ :: os, ds, h => by cases h
  | .tup _ :: os, ds, h => by cases h
  | .dct _ _ :: os, ds, h => by cases h
  | .ins _ _ :: os, ds, h => by cases h
theorem new_tup {os : List O} {vs : List V} {Ts : Nat → Set1} {p : Addr} (hh : Hold c F S env σ H) (t : Temps c F S σ H (os.map R.o) vs Ts) (hp : H p = none) :
    ∃ F', Go F (fun x => un S x ∨ un Ts x) H F' S (un Ts) (upd H p (.tup vs)) ∧ Hold c F' S env σ (upd H p (.tup vs)) ∧ RO c F' (upd H p (.tup vs)) (.ref p) (mkTup os) (un Ts) := by
  have sm : ∀ x u, H x = some u → upd H p (.tup vs) x = some u := fun x u e => by rw [upd_ne (ne_of_none e hp)]; exact e
  have Fp : F p = none := by
    cases e : F p with
    | none => rfl
    | some u => rw [hh.ex p u e] at hp; cases hp
  have Sp : ∀ j, ¬ S j p := fun j h => by
    obtain ⟨u, hu, _⟩ := hh.own h
    rw [hu] at hp; cases hp
  have Tp : ∀ j, ¬ Ts j p := fun j h => by
    obtain ⟨u, hu, _⟩ := t.own h
    rw [hu] at hp; cases hp
  have eF : Same F (upd F p (.tup vs)) := fun a u e => by rw [upd_ne (ne_of_none e Fp)]; exact e
  have eH : Same (upd F p (.tup vs)) (upd H p (.tup vs)) := fun a u e => by
    by_cases ea : a = p
    · subst ea; rw [upd_same] at e ⊢; exact e
    · rw [upd_ne ea] at e ⊢; exact hh.ex a u e
  have hl : vs.length = os.length := by have := t.len; simpa using this
  refine ⟨upd F p (.tup vs), ⟨eF, fun x u e _ => sm x u e, fun i x h => .inl (.inl ⟨i, h⟩), fun x h => .inl (.inr h), fun x h => ?_, fun i x ⟨k, h⟩ hs => t.offS k i x h hs, fun x ⟨k, h⟩ => ?_⟩, hh.heap eF eH (fun j x u _ e => sm x u e) (fun j x h => ?_), ?_⟩
  · by_cases ea : x = p
    · subst ea; exact .inr (.inr (.inl hp))
    · rw [upd_ne ea] at h; exact .inl h
  · rw [upd_ne (show x ≠ p from fun e => by subst e; exact Tp k h)]
    exact t.offF k x h
  · rw [upd_ne (show x ≠ p from fun e => by subst e; exact Sp j h)]
    exact hh.off j x h
  · have ch : ∀ (k : Nat) (v : V) (o : O), vs[k]? = some v → os[k]? = some o → RO c (upd F p (.tup vs)) (upd H p (.tup vs)) v o (Ts k) := fun k v o hv ho =>
      RO.up (t.is k (.o o) v (by simp [ho]) hv) eF fun x u _ e => sm x u e
    unfold mkTup
    cases e : vals os with
    | none => exact .tup Ts upd_same hl ch t.dis (fun k x hx => by have := t.bd k x hx; simpa using this) fun x => Iff.rfl
    | some ds =>
      have eo := vals_spec e
      have em : ∀ x, ¬ un Ts x := fun x ⟨k, hk⟩ => by
        have hb := t.bd k x hk
        obtain ⟨v, o, hv, ho⟩ := get_of_lt hl (by simpa using hb)
        have ro := ch k v o hv ho
        rw [eo, List.getElem?_map] at ho
        obtain ⟨d, _, rfl⟩ := Option.map_eq_some_iff.mp ho
        cases ro with
        | val _ hn => exact hn x hk
      refine .val (.tup upd_same (by rw [hl, eo, List.length_map]) fun k v d hv hd => ?_) em
      have ro := ch k v (.val d) hv (by rw [eo, List.getElem?_map, hd]; rfl)
      cases ro with
      | val rp _ => exact rp
theorem maxLen_le {n : Nat} (h : n ≤ maxLen) : n ≤ sizeLine := Nat.le_trans h (by unfold maxLen; decide)
theorem maxLen_lt {n : Nat} (h : n ≤ maxLen) : n < sizeLine := Nat.lt_of_le_of_lt h (by unfold maxLen; decide)
theorem op_lst : Op c (fun vs H Q => vs.length ≤ sizeLine ∧ ∀ p, H p = none → Q (.ref p) (upd H p (.lst vs))) opLst := by
  intro F S env σ H rs vs Ts r' env' Q hh t hg q
  unfold opLst at hg
  split at hg
  · rename_i hz
    obtain ⟨⟨os, e1⟩, hs, e⟩ := Option.map_eq_some_iff.mp hg
    cases e
    refine ⟨by rw [t.len]; exact maxLen_le hz, fun p hp => ?_⟩
    obtain ⟨F1, S1, h1, t1, g1, k1⟩ := settles_ok hh t hs
    obtain ⟨g2, h2, ro⟩ := new_lst h1 t1 hp
    have g1' : Go F (fun x => un S x ∨ un Ts x) H F1 S1 (un Ts) H := ⟨g1.exF, fun x u hu hn => g1.fr x u hu fun z => hn (.inl z), fun i x h => (g1.nS i x h).imp .inl id, fun x h => .inl (.inr h), fun x h => (g1.nF x h).imp_right (·.imp_left .inl), fun i x ⟨k, h⟩ => t1.offS k i x h, fun x ⟨k, h⟩ => t1.offF k x h⟩
    exact q F1 S1 _ (.ref p) _ (g1'.trans g2 fun x h => h) h2 k1 ro
  · cases hg
theorem op_tup : Op c (fun vs H Q => vs.length ≤ sizeLine ∧ ∀ p, H p = none → Q (.ref p) (upd H p (.tup vs))) opTup := by
  intro F S env σ H rs vs Ts r' env' Q hh t hg q
  unfold opTup at hg
  split at hg
  · rename_i hz
    obtain ⟨⟨os, e1⟩, hs, e⟩ := Option.map_eq_some_iff.mp hg
    cases e
    refine ⟨by rw [t.len]; exact maxLen_le hz, fun p hp => ?_⟩
    obtain ⟨F1, S1, h1, t1, g1, k1⟩ := settles_ok hh t hs
    obtain ⟨F2, g2, h2, ro⟩ := new_tup h1 t1 hp
    have g1' : Go F (fun x => un S x ∨ un Ts x) H F1 S1 (un Ts) H := ⟨g1.exF, fun x u hu hn => g1.fr x u hu fun z => hn (.inl z), fun i x h => (g1.nS i x h).imp .inl id, fun x h => .inl (.inr h), fun x h => (g1.nF x h).imp_right (·.imp_left .inl), fun i x ⟨k, h⟩ => t1.offS k i x h, fun x ⟨k, h⟩ => t1.offF k x h⟩
    exact q F2 S1 _ (.ref p) _ (g1'.trans g2 fun x h => h) h2 k1 ro
  · cases hg
variable {X : Cx}
theorem v_nil : PA X [] (tVA c W (eArgs [])) := PA_imp pa_nil fun σ H Q h => args_nil h
theorem tVA_mono {f : M (List R)} {Q Q' : List V → Hp → Prop} (h : tVA c W f σ H Q) (i : ∀ v H, Q v H → Q' v H) : tVA c W f σ H Q' := by
  obtain ⟨F, S, env, hh, res, e, q⟩ := h
  refine ⟨F, S, env, hh, res, e, ?_⟩
  cases res with
  | ok r env' => exact fun F' S' T v H' g h k is => i _ _ (q F' S' T v H' g h k is)
  | ex x env' => exact q
theorem v_cons {e : Expr} {es : List Expr} {as : List EV} (ha : PE X e (tV c W fa)) (hr : PA X es (tVA c W (eArgs as))) (hs : starEach (e :: es) X.env = (false, eval e X.env) :: starEach es X.env := by rfl) : PA X (e :: es) (tVA c W (eArgs (fa :: as))) :=
  PA_imp (pa_cons ha hr hs) fun σ H Q h => args_cons h
theorem v_lst {es : List Expr} {as : List EV} {pos : Pos} (h : PA X es (tVA c W (eArgs as))) : PE X (.List es pos) (tV c W (eOp opLst (eArgs as))) := PE_imp (pe_lst h) fun σ H Q h => op_args op_lst h
theorem v_tup {es : List Expr} {as : List EV} {x1} {pos : Pos} (h : PA X es (tVA c W (eArgs as))) : PE X (.Tuple es x1 pos) (tV c W (eOp opTup (eArgs as))) := PE_imp (pe_tup h) fun σ H Q h => op_args op_tup h
end VS
namespace VS
open PySem L2
variable {c : Cn} {W : WX} {F F' F1 F2 H H' H1 H2 : Hp} {S S' S1 S2 : Nat → Set1} {T T' T1 T2 : Set1} {σ σ' : L2.St} {r : R} {v : V} {env env' : VEnv} {Q : VK} {fa fb fc : EV} {X : Cx}
theorem rep1 {vs : List V} {d1 : D} (hl : vs.length = [d1].length) (hr : ∀ (k : Nat) v d, vs[k]? = some v → [d1][k]? = some d → Rep c H v d) : ∃ v1, vs = [v1] ∧ Rep c H v1 d1 := by
  match vs, hl with
  | [v1], _ => exact ⟨v1, rfl, hr 0 v1 d1 rfl rfl⟩
theorem rep2 {vs : List V} {d1 d2 : D} (hl : vs.length = [d1, d2].length) (hr : ∀ (k : Nat) v d, vs[k]? = some v → [d1, d2][k]? = some d → Rep c H v d) : ∃ v1 v2, vs = [v1, v2] ∧ Rep c H v1 d1 ∧ Rep c H v2 d2 := by
  match vs, hl with
  | [v1, v2], _ => exact ⟨v1, v2, rfl, hr 0 v1 d1 rfl rfl, hr 1 v2 d2 rfl rfl⟩
theorem sv_len (s : List Nat) : (⟨s.toArray⟩ : Str).length = s.length := by
  show (s.toArray).size = s.length
  simp
theorem sv_cat (a b : List Nat) : (⟨a.toArray⟩ : Str) ++ ⟨b.toArray⟩ = ⟨(a ++ b).toArray⟩ := by
  show (⟨a.toArray ++ b.toArray⟩ : Str) = _
  congr 1
  simp
def rAddS : R2 := fun x y H Q => ∃ i j, x = V.str i ∧ y = V.str j ∧ i.length + j.length ≤ sizeLine ∧ Q (V.str (i ++ j)) H
theorem op_addS : Op c (R2L fun x y H Q => rI0 (fun i j => V.int (i + j)) x y H Q ∨ rAddS x y H Q) (opS fAdd) := op_scal fun H vs ds d Q hl hr h => by
  unfold fAdd at h
  split at h
  · cases h
    obtain ⟨v1, v2, rfl, r1, r2⟩ := rep2 hl hr
    cases r1
    cases r2
    exact ⟨_, rfl, fun q => ⟨_, _, rfl, .inl ⟨_, _, rfl, rfl, q⟩⟩⟩
  · split at h
    · rename_i hz
      cases h
      obtain ⟨v1, v2, rfl, r1, r2⟩ := rep2 hl hr
      cases r1
      cases r2
      refine ⟨_, rfl, fun q => ⟨_, _, rfl, .inr ⟨_, _, rfl, rfl, ?_, ?_⟩⟩⟩
      · rw [sv_len, sv_len]; exact maxLen_le hz
      · rw [sv_cat]; exact q
    · cases h
  · cases h
theorem op_int2 {f : List D → Option D} {r : R2} (h : ∀ ds d, f ds = some d → ∃ i j, ds = [.int i, .int j] ∧ ∃ v, scV d = some v ∧ ∀ H Q, Q v H → r (.int i) (.int j) H Q) : Op c (R2L r) (opS f) := op_scal fun H vs ds d Q hl hr e => by
  obtain ⟨i, j, rfl, v, hv, q⟩ := h ds d e
  obtain ⟨v1, v2, rfl, r1, r2⟩ := rep2 hl hr
  cases r1
  cases r2
  exact ⟨v, hv, fun z => ⟨_, _, rfl, q H Q z⟩⟩
theorem op_subS : Op c (R2L (rI0 fun i j => V.int (i - j))) (opS fSub) := op_int2 fun ds d e => by
  unfold fSub at e
  split at e
  · cases e; exact ⟨_, _, rfl, _, rfl, fun H Q q => ⟨_, _, rfl, rfl, q⟩⟩
  · cases e
theorem op_mulS : Op c (R2L (rI CMul fun i j => V.int (i * j))) (opS fMul) := op_int2 fun ds d e => by
  unfold fMul at e
  split at e
  · split at e
    · rename_i hz
      cases e
      refine ⟨_, _, rfl, _, rfl, fun H Q q => ⟨_, _, rfl, rfl, ?_, q⟩⟩
      unfold small64 at hz
      simp only [Bool.or_eq_true, decide_eq_true_eq] at hz
      exact hz
    · cases e
  · cases e
theorem op_divS : Op c (R2L (rI CDivN fun i j => V.int (i.fdiv j))) (opS fDiv) := op_int2 fun ds d e => by
  unfold fDiv at e
  split at e
  · split at e
    · rename_i hz
      cases e
      exact ⟨_, _, rfl, _, rfl, fun H Q q => ⟨_, _, rfl, rfl, hz, q⟩⟩
    · cases e
  · cases e
theorem op_modS : Op c (R2L (rI (fun x j => j ≠ 0) fun i j => V.int (i.fmod j))) (opS fMod) := op_int2 fun ds d e => by
  unfold fMod at e
  split at e
  · split at e
    · rename_i hz
      cases e
      exact ⟨_, _, rfl, _, rfl, fun H Q q => ⟨_, _, rfl, rfl, hz, q⟩⟩
    · cases e
  · cases e
theorem op_powS : Op c (R2L (rI CPow fun i j => V.int (i ^ j.toNat))) (opS fPow) := op_int2 fun ds d e => by
  unfold fPow at e
  split at e
  · split at e
    · rename_i hz
      cases e
      exact ⟨_, _, rfl, _, rfl, fun H Q q => ⟨_, _, rfl, rfl, hz, q⟩⟩
    · cases e
  · cases e
theorem op_cmpS {p : Int → Int → Bool} : Op c (R2L (rI0 fun i j => V.bl (p i j))) (opS (fCmp p)) := op_int2 fun ds d e => by
  unfold fCmp at e
  split at e
  · cases e; exact ⟨_, _, rfl, _, rfl, fun H Q q => ⟨_, _, rfl, rfl, q⟩⟩
  · cases e
theorem op_negS : Op c (R1L (rU fun i => V.int (-i))) (opS fNeg) := op_scal fun H vs ds d Q hl hr e => by
  unfold fNeg at e
  split at e
  · cases e
    obtain ⟨v1, rfl, r1⟩ := rep1 hl hr
    cases r1
    exact ⟨_, rfl, fun q => ⟨_, rfl, _, rfl, q⟩⟩
  · cases e
theorem op_absS : Op c (fun xs H Q => ∃ i, xs = [V.int i] ∧ Q (V.int (if i < 0 then -i else i)) H) (opS fAbs) := op_scal fun H vs ds d Q hl hr e => by
  unfold fAbs at e
  split at e
  · cases e
    obtain ⟨v1, rfl, r1⟩ := rep1 hl hr
    cases r1
    exact ⟨_, rfl, fun q => ⟨_, rfl, q⟩⟩
  · cases e
theorem op_max2S : Op c (fun xs H Q => ∃ i j, xs = [V.int i, V.int j] ∧ Q (V.int (if j > i then j else i)) H) (opS fMax2) := op_scal fun H vs ds d Q hl hr e => by
  unfold fMax2 at e
  split at e
  · cases e
    obtain ⟨v1, v2, rfl, r1, r2⟩ := rep2 hl hr
    cases r1
    cases r2
    exact ⟨_, rfl, fun q => ⟨_, _, rfl, q⟩⟩
  · cases e
theorem op_min2S : Op c (fun xs H Q => ∃ i j, xs = [V.int i, V.int j] ∧ Q (V.int (if j < i then j else i)) H) (opS fMin2) := op_scal fun H vs ds d Q hl hr e => by
  unfold fMin2 at e
  split at e
  · cases e
    obtain ⟨v1, v2, rfl, r1, r2⟩ := rep2 hl hr
    cases r1
    cases r2
    exact ⟨_, rfl, fun q => ⟨_, _, rfl, q⟩⟩
  · cases e
theorem op_intS : Op c (fun xs H Q => (∃ i, xs = [V.int i] ∧ Q (V.int i) H) ∨ ∃ k, xs = [V.bl k] ∧ Q (V.int (if k = true then 1 else 0)) H) (opS fInt) := op_scal fun H vs ds d Q hl hr e => by
  unfold fInt at e
  split at e
  · cases e
    obtain ⟨v1, rfl, r1⟩ := rep1 hl hr
    cases r1
    exact ⟨_, rfl, fun q => .inl ⟨_, rfl, q⟩⟩
  · cases e
    obtain ⟨v1, rfl, r1⟩ := rep1 hl hr
    cases r1
    exact ⟨_, rfl, fun q => .inr ⟨_, rfl, q⟩⟩
  · cases e
mutual
def toPy : D → PyData
  | .non => .none
  | .bl b => .bool b
  | .int i => .int i
  | .str s => .str ⟨s.toArray⟩
  | .tup ds => .tuple (toPys ds)
  | .lst ds => .list (toPys ds)
  | _ => .dict []
def toPys : List D → List PyData
  | [] => []
  | d :: ds => toPy d :: toPys ds
end
mutual
theorem eqv_toPy : ∀ x y : D, x.canE = true → y.canE = true → PyData.eqv (toPy x) (toPy y) = eqD x y
  | .non, y, hx, hy => by cases y <;> simp_all [toPy, eqD, PyData.eqv, D.canE]
  | .bl b, y, hx, hy => by cases y <;> simp_all [toPy, eqD, PyData.eqv, D.canE, b2i]
  | .int b, y, hx, hy => by cases y <;> simp_all [toPy, eqD, PyData.eqv, D.canE, b2i]
  | .str b, y, hx, hy => by
    cases y with
    | str s =>
      simp only [toPy, eqD, PyData.eqv]
      rw [Bool.eq_iff_iff, beq_iff_eq, beq_iff_eq]
      constructor
      · intro h
        have := congrArg Str.cps h
        simpa using this
      · rintro rfl; rfl
    | _ => simp_all [toPy, eqD, PyData.eqv, D.canE]
  | .tup b, y, hx, hy => by
    cases y with
    | tup s =>
      simp only [toPy, eqD, PyData.eqv]
      simp only [D.canE] at hx hy
      exact eqvs_toPy b s hx hy
    | _ => simp_all [toPy, eqD, PyData.eqv, D.canE]
  | .lst b, y, hx, hy => by
    cases y with
    | lst s =>
      simp only [toPy, eqD, PyData.eqv]
      simp only [D.canE] at hx hy
      exact eqvs_toPy b s hx hy
    | _ => simp_all [toPy, eqD, PyData.eqv, D.canE]
  | .scr _, y, hx, hy => by simp [D.canE] at hx
  | .dct _ _, y, hx, hy => by simp [D.canE] at hx
  | .ins _ _, y, hx, hy => by simp [D.canE] at hx
theorem eqvs_toPy : ∀ x y : List D, canEs x = true → canEs y = true → PyData.eqvAll (toPys x) (toPys y) = eqDs x y
  | [], [], _, _ => by simp [toPys, eqDs, PyData.eqvAll]
  | [], _ :: _, _, _ => by simp [toPys, eqDs, PyData.eqvAll]
  | _ :: _, [], _, _ => by simp [toPys, eqDs, PyData.eqvAll]
  | x :: xs, y :: ys, hx, hy => by
    simp only [canEs, Bool.and_eq_true] at hx hy
    simp only [toPys, eqDs, PyData.eqvAll, eqv_toPy x y hx.1 hy.1, eqvs_toPy xs ys hx.2 hy.2]
end
mutual
theorem can_toPy : ∀ x : D, x.canE = true → (toPy x).canLay0 = true ∧ (toPy x).depth ≤ x.dep
  | .non, _ => by simp [toPy, PyData.canLay0, PyData.depth]
  | .bl _, _ => by simp [toPy, PyData.canLay0, PyData.depth]
  | .int _, _ => by simp [toPy, PyData.canLay0, PyData.depth]
  | .str s, h => by
    simp only [D.canE] at h
    simp [toPy, PyData.canLay0, PyData.depth, PyData.strOk]
    simpa using h
  | .tup b, h => by
    simp only [D.canE] at h
    have := cans_toPy b h
    simp only [toPy, PyData.canLay0, PyData.depth, D.dep]
    exact ⟨this.1, by omega⟩
  | .lst b, h => by
    simp only [D.canE] at h
    have := cans_toPy b h
    simp only [toPy, PyData.canLay0, PyData.depth, D.dep]
    exact ⟨this.1, by omega⟩
  | .scr _, hx => by simp [D.canE] at hx
  | .dct _ _, hx => by simp [D.canE] at hx
  | .ins _ _, hx => by simp [D.canE] at hx
theorem cans_toPy : ∀ x : List D, canEs x = true → PyData.canLayAll0 (toPys x) = true ∧ PyData.depthAll (toPys x) ≤ deps x
  | [], _ => by simp [toPys, PyData.canLayAll0, PyData.depthAll]
  | x :: xs, h => by
    simp only [canEs, Bool.and_eq_true] at h
    have h1 := can_toPy x h.1
    have h2 := cans_toPy xs h.2
    simp only [toPys, PyData.canLayAll0, PyData.depthAll, deps, h1.1, h2.1]
    exact ⟨rfl, by omega⟩
end
theorem dpAll_of {vs : List V} : ∀ {ds : List D}, vs.length = ds.length → (∀ (k : Nat) v d, vs[k]? = some v → ds[k]? = some d → Dp c.K H v (toPy d)) → DpAll c.K H vs (toPys ds) := by
  induction vs with
  | nil =>
    intro ds hl h
    cases ds with
    | nil => exact .nil
    | cons d ds => cases hl
  | cons v vs ih =>
    intro ds hl h
    cases ds with
    | nil => cases hl
    | cons d ds => exact .cons (h 0 v d rfl rfl) (ih (by simpa using hl) fun k v d hv hd => h (k + 1) v d (by simpa using hv) (by simpa using hd))
theorem canEs_get : ∀ {ds : List D} {k : Nat} {d : D}, canEs ds = true → ds[k]? = some d → d.canE = true
  | [], k, d, h, e => by simp at e
  | x :: ds, 0, d, h, e => by simp only [canEs, Bool.and_eq_true] at h; cases e; exact h.1
  | x :: ds, k + 1, d, h, e => by
    simp only [canEs, Bool.and_eq_true] at h
    exact canEs_get h.2 (by simpa using e)
theorem Rep.dp {d : D} (r : Rep c H v d) (h : d.canE = true) : Dp c.K H v (toPy d) := by
  induction r with
  | non => exact .non
  | bl b => exact .bl b
  | int i => exact .int i
  | str s => exact .str _
  | tup hs hl hr ih =>
    simp only [D.canE] at h
    exact .tup (.inl (.inl hs)) (dpAll_of hl fun k v d hv hd => ih k v d hv hd (canEs_get h hd))
  | lst hs hl hr ih =>
    simp only [D.canE] at h
    exact .lst (.inl (.inl hs)) (dpAll_of hl fun k v d hv hd => ih k v d hv hd (canEs_get h hd))
  | scr _ => simp [D.canE] at h
  | dK _ _ _ _ => simp [D.canE] at h
  | dT _ _ _ _ => simp [D.canE] at h
  | ins _ _ _ _ _ => simp [D.canE] at h
theorem okE_sh {d : D} (h : okE d = true) : SeqAt.shaped (toPy d) = true := by
  unfold okE at h
  simp only [Bool.and_eq_true, decide_eq_true_eq] at h
  have := can_toPy d h.1
  unfold SeqAt.shaped
  simp only [Bool.and_eq_true, decide_eq_true_eq]
  exact ⟨this.1, by omega⟩
theorem okE_can {d : D} (h : okE d = true) : d.canE = true := by
  unfold okE at h
  simp only [Bool.and_eq_true] at h
  exact h.1
theorem op_eqS : Op c (R2L (rEqD c.K)) (opS fEq) := op_scal fun H vs ds d Q hl hr e => by
  unfold fEq at e
  split at e
  · split at e
    · rename_i x y hz
      cases e
      simp only [Bool.and_eq_true] at hz
      obtain ⟨v1, v2, rfl, r1, r2⟩ := rep2 hl hr
      refine ⟨_, rfl, fun q => ⟨_, _, rfl, _, _, r1.dp (okE_can hz.1), r2.dp (okE_can hz.2), okE_sh hz.1, okE_sh hz.2, ?_⟩⟩
      rw [eqv_toPy _ _ (okE_can hz.1) (okE_can hz.2)]
      exact q
    · cases e
  · cases e
theorem op_neS : Op c (R2L (rNeD c.K)) (opS fNe) := op_scal fun H vs ds d Q hl hr e => by
  unfold fNe at e
  split at e
  · split at e
    · rename_i x y hz
      cases e
      simp only [Bool.and_eq_true] at hz
      obtain ⟨v1, v2, rfl, r1, r2⟩ := rep2 hl hr
      refine ⟨_, rfl, fun q => ⟨_, _, rfl, _, _, r1.dp (okE_can hz.1), r2.dp (okE_can hz.2), okE_sh hz.1, okE_sh hz.2, ?_⟩⟩
      rw [eqv_toPy _ _ (okE_can hz.1) (okE_can hz.2)]
      exact q
    · cases e
  · cases e
theorem Rep.isN {d : D} (r : Rep c H v d) : decide (v = .non) = d.isN := by
  cases r <;> simp [D.isN, SV]
theorem op_isS : Op c (R2L fun x y H Q => y = V.non ∧ Q (V.bl (decide (x = V.non))) H) (opS fIs) := op_scal fun H vs ds d Q hl hr e => by
  unfold fIs at e
  split at e
  · cases e
    obtain ⟨v1, v2, rfl, r1, r2⟩ := rep2 hl hr
    cases r2
    refine ⟨_, rfl, fun q => ⟨_, _, rfl, rfl, ?_⟩⟩
    rw [r1.isN]
    exact q
  · cases e
theorem op_isNotS : Op c (R2L fun x y H Q => y = V.non ∧ Q (V.bl (!decide (x = V.non))) H) (opS fIsNot) := op_scal fun H vs ds d Q hl hr e => by
  unfold fIsNot at e
  split at e
  · cases e
    obtain ⟨v1, v2, rfl, r1, r2⟩ := rep2 hl hr
    cases r2
    refine ⟨_, rfl, fun q => ⟨_, _, rfl, rfl, ?_⟩⟩
    rw [r1.isN]
    exact q
  · cases e
end VS
namespace VS
open PySem L2
variable {c : Cn} {W : WX} {F F' F1 F2 H H' H1 H2 : Hp} {S S' S1 S2 : Nat → Set1} {T T' T1 T2 : Set1} {σ σ' : L2.St} {r : R} {v : V} {env env' : VEnv} {Q : VK} {fa fb fc : EV} {X : Cx}
theorem op_lenS : Op c (fun xs H Q => ∃ x n, xs = [x] ∧ LenV c.K x H n ∧ Q (V.int (n : Nat)) H) (opS fLen) := op_scal fun H vs ds d Q hl hr e => by
  unfold fLen at e
  split at e
  · cases e
    obtain ⟨v1, rfl, r1⟩ := rep1 hl hr
    cases r1 with
    | lst h l _ => exact ⟨_, rfl, fun q => ⟨_, _, rfl, .inl ⟨_, .inl (.inl h), rfl⟩, by rw [l]; exact q⟩⟩
  · cases e
    obtain ⟨v1, rfl, r1⟩ := rep1 hl hr
    cases r1 with
    | tup h l _ => exact ⟨_, rfl, fun q => ⟨_, _, rfl, .inr ⟨_, .inl (.inl h), rfl⟩, by rw [l]; exact q⟩⟩
  · cases e
    obtain ⟨v1, rfl, r1⟩ := rep1 hl hr
    cases r1 with
    | scr h => exact ⟨_, rfl, fun q => ⟨_, _, rfl, .inl ⟨_, h, rfl⟩, by rw [List.length_map]; exact q⟩⟩
  · split at e
    · rename_i hz
      cases e
      obtain ⟨v1, rfl, r1⟩ := rep1 hl hr
      cases r1
      exact ⟨_, rfl, fun q => ⟨_, _, rfl, ⟨by rw [sv_len]; exact maxLen_le hz, rfl⟩, by rw [sv_len]; exact q⟩⟩
    · cases e
  · cases e
theorem allBl_spec : ∀ {ds : List D} {bs : List Bool}, allBl ds = some bs → ds = bs.map .bl
  | [], bs, h => by cases h; rfl
  | .bl b :: ds, bs, h => by
    unfold allBl at h
    obtain ⟨r, hr, rfl⟩ := Option.map_eq_some_iff.mp h
    rw [allBl_spec hr]; rfl
  | .non :: _, _, h => by cases h
  | .int _ :: _, _, h => by cases h
  | .str _ :: _, _, h => by cases h
  | .tup _ :: _, _, h => by cases h
  | .lst _ :: _, _, h => by cases h
  | .scr _ :: _, _, h => by cases h
  | .dct _ _ :: _, _, h => by cases h
  | .ins _ _ :: _, _, h => by cases h
theorem allInt_spec : ∀ {ds : List D} {bs : List Int}, allInt ds = some bs → ds = bs.map .int
  | [], bs, h => by cases h; rfl
  | .int b :: ds, bs, h => by
    unfold allInt at h
    obtain ⟨r, hr, rfl⟩ := Option.map_eq_some_iff.mp h
    rw [allInt_spec hr]; rfl
  | .non :: _, _, h => by cases h
  | .bl _ :: _, _, h => by cases h
  | .str _ :: _, _, h => by cases h
  | .tup _ :: _, _, h => by cases h
  | .lst _ :: _, _, h => by cases h
  | .scr _ :: _, _, h => by cases h
  | .dct _ _ :: _, _, h => by cases h
  | .ins _ _ :: _, _, h => by cases h
theorem allStr_spec : ∀ {ds : List D} {bs : List (List Nat)}, allStr ds = some bs → ds = bs.map .str
  | [], bs, h => by cases h; rfl
  | .str b :: ds, bs, h => by
    unfold allStr at h
    obtain ⟨r, hr, rfl⟩ := Option.map_eq_some_iff.mp h
    rw [allStr_spec hr]; rfl
  | .non :: _, _, h => by cases h
  | .bl _ :: _, _, h => by cases h
  | .int _ :: _, _, h => by cases h
  | .tup _ :: _, _, h => by cases h
  | .lst _ :: _, _, h => by cases h
  | .scr _ :: _, _, h => by cases h
  | .dct _ _ :: _, _, h => by cases h
  | .ins _ _ :: _, _, h => by cases h
theorem vals_of {α : Type} {g : α → D} {gv : α → V} (hg : ∀ H v a, Rep c H v (g a) → v = gv a) {vs : List V} {bs : List α} (hl : vs.length = (bs.map g).length) (hr : ∀ (k : Nat) v d, vs[k]? = some v → (bs.map g)[k]? = some d → Rep c H v d) : vs = bs.map gv := by
  apply List.ext_getElem?
  intro k
  by_cases hk : k < vs.length
  · obtain ⟨v, d, hv, hd⟩ := get_of_lt hl (by rw [← hl]; exact hk)
    have r := hr k v d hv hd
    rw [List.getElem?_map] at hd
    obtain ⟨b, hb, rfl⟩ := Option.map_eq_some_iff.mp hd
    rw [hv, List.getElem?_map, hb, hg H v b r]
    rfl
  · rw [List.length_map] at hl
    rw [List.getElem?_eq_none (by omega), List.getElem?_eq_none (by rw [List.length_map]; omega)]
theorem rep_bl {b : Bool} (r : Rep c H v (.bl b)) : v = .bl b := by cases r; rfl
theorem rep_int {b : Int} (r : Rep c H v (.int b)) : v = .int b := by cases r; rfl
theorem rep_str {b : List Nat} (r : Rep c H v (.str b)) : v = SV b := by cases r; rfl
theorem op_anyS : Op c (rAny c.K) (opS fAny) := op_scal fun H vs ds d Q hl hr e => by
  unfold fAny at e
  split at e
  · obtain ⟨bs, hb, rfl⟩ := Option.map_eq_some_iff.mp e
    obtain ⟨v1, rfl, r1⟩ := rep1 hl hr
    cases r1 with
    | lst h l hr =>
      have := allBl_spec hb
      subst this
      have := vals_of (g := D.bl) (gv := V.bl) (fun H v a r => rep_bl r) l hr
      subst this
      exact ⟨_, rfl, fun q => ⟨_, _, rfl, .inl (.inl h), q⟩⟩
  · cases e
theorem op_allS : Op c (rAll c.K) (opS fAll) := op_scal fun H vs ds d Q hl hr e => by
  unfold fAll at e
  split at e
  · obtain ⟨bs, hb, rfl⟩ := Option.map_eq_some_iff.mp e
    obtain ⟨v1, rfl, r1⟩ := rep1 hl hr
    cases r1 with
    | lst h l hr =>
      have := allBl_spec hb
      subst this
      have := vals_of (g := D.bl) (gv := V.bl) (fun H v a r => rep_bl r) l hr
      subst this
      exact ⟨_, rfl, fun q => ⟨_, _, rfl, .inl (.inl h), q⟩⟩
  · cases e
theorem op_sumS : Op c (rSum c.K) (opS fSum) := op_scal fun H vs ds d Q hl hr e => by
  unfold fSum at e
  split at e
  · obtain ⟨bs, hb, rfl⟩ := Option.map_eq_some_iff.mp e
    obtain ⟨v1, rfl, r1⟩ := rep1 hl hr
    cases r1 with
    | lst h l hr =>
      have := allInt_spec hb
      subst this
      have := vals_of (g := D.int) (gv := V.int) (fun H v a r => rep_int r) l hr
      subst this
      exact ⟨_, rfl, fun q => ⟨_, _, rfl, .inl (.inl h), q⟩⟩
  · cases e
def tyN : Ty → String
  | .int => "int"
  | .bool => "bool"
  | .str => "str"
  | .list => "list"
  | .tuple => "tuple"
theorem kits (t : Ty) : kitB "NoneType" (tyN t) = some false ∧ kitB "bool" (tyN t) = some (t == .bool || t == .int) ∧ kitB "int" (tyN t) = some (t == .int) ∧ kitB "str" (tyN t) = some (t == .str) ∧ kitB "list" (tyN t) = some (t == .list) ∧ kitB "tuple" (tyN t) = some (t == .tuple) ∧ kitB "dict" (tyN t) = some false := by
  cases t <;> decide +kernel
theorem sqT_ty {a : Addr} {vs : List V} (h : SqT c.K H a vs) : TyX c.K H (.ref a) (.type "tuple") := by
  rcases h with (h | ⟨o, h⟩) | ⟨o, its, n, h1, h2, _⟩
  · exact .base (.tup h)
  · exact .fTuple h
  · exact .kTuple h1 h2
theorem op_isT {t : Ty} : Op c (fun xs H Q => ∃ x, xs = [x] ∧ rIsi c.K [x, .ty (tyN t)] H Q) (opS (fIsT t)) := op_scal fun H vs ds d Q hl hr e => by
  unfold fIsT at e
  split at e
  · rename_i d0
    obtain ⟨b, hb, rfl⟩ := Option.map_eq_some_iff.mp e
    obtain ⟨v1, rfl, r1⟩ := rep1 hl hr
    obtain ⟨k1, k2, k3, k4, k5, k6, k7⟩ := kits t
    refine ⟨_, rfl, fun q => ⟨_, rfl, ?_⟩⟩
    cases r1 with
    | non => cases hb; exact ⟨_, _, _, _, _, rfl, .ty _, .base .non, kit_ty k1, q⟩
    | bl => cases hb; exact ⟨_, _, _, _, _, rfl, .ty _, .base (.bl _), kit_ty k2, q⟩
    | int => cases hb; exact ⟨_, _, _, _, _, rfl, .ty _, .base (.int _), kit_ty k3, q⟩
    | str => cases hb; exact ⟨_, _, _, _, _, rfl, .ty _, .base (.str _), kit_ty k4, q⟩
    | lst h => cases hb; exact ⟨_, _, _, _, _, rfl, .ty _, .base (.lst h), kit_ty k5, q⟩
    | tup h => cases hb; exact ⟨_, _, _, _, _, rfl, .ty _, sqT_ty (.inl (.inl h)), kit_ty k6, q⟩
    | scr h => cases hb
    | dK h =>
      cases hb
      rcases h with h | ⟨o, h⟩
      · exact ⟨_, _, _, _, _, rfl, .ty _, .base (.dK h), kit_ty k7, q⟩
      · exact ⟨_, _, _, _, _, rfl, .ty _, .fDict h, kit_ty k7, q⟩
    | dT h => cases hb
    | ins => cases hb
  · cases e
theorem items_lst (hh : Hold c F S env σ H) (h : IsR c F H σ r v T) {ds : List D} (e : r.items env = some (true, ds)) : ∃ a vs, v = .ref a ∧ H a = some (.lst vs) ∧ vs.length = ds.length ∧ ∀ (k : Nat) v d, vs[k]? = some v → ds[k]? = some d → Rep c F v d := by
  unfold R.items at e
  split at e
  · rename_i ho
    cases e
    obtain ⟨T', ro⟩ := h.get hh ho
    cases ro with
    | val rp _ =>
      cases rp with
      | lst h1 l hr => exact ⟨_, _, rfl, hh.ex _ _ h1, l, hr⟩
  · cases e
  · rename_i ho
    obtain ⟨ds', hv, e⟩ := Option.map_eq_some_iff.mp e
    cases e
    obtain ⟨T', ro⟩ := h.get hh ho
    cases ro with
    | lst S h1 l hr _ _ _ =>
      have := vals_spec hv
      subst this
      refine ⟨_, _, rfl, h1, by rw [l, List.length_map], fun k v d hv hd => ?_⟩
      have := hr k v (.val d) hv (by rw [List.getElem?_map, hd]; rfl)
      cases this with
      | val rp _ => exact rp
  · rename_i ho
    obtain ⟨ds', hv, e⟩ := Option.map_eq_some_iff.mp e
    cases e
  · cases e
theorem items_tupS (hh : Hold c F S env σ H) (h : IsR c F H σ r v T) {ds : List D} (e : r.items env = some (false, ds)) : ∃ a vs, v = .ref a ∧ F a = some (.tup vs) ∧ vs.length = ds.length ∧ ∀ (k : Nat) v d, vs[k]? = some v → ds[k]? = some d → Rep c F v d := by
  unfold R.items at e
  split at e
  · cases e
  · rename_i ho
    cases e
    obtain ⟨T', ro⟩ := h.get hh ho
    cases ro with
    | val rp _ =>
      cases rp with
      | tup h1 l hr => exact ⟨_, _, rfl, h1, l, hr⟩
  · rename_i ho
    obtain ⟨ds', hv, e⟩ := Option.map_eq_some_iff.mp e
    cases e
  · rename_i ho
    obtain ⟨ds', hv, e⟩ := Option.map_eq_some_iff.mp e
    cases e
    obtain ⟨T', ro⟩ := h.get hh ho
    cases ro with
    | tup S h1 l hr _ _ _ =>
      have := vals_spec hv
      subst this
      refine ⟨_, _, rfl, h1, by rw [l, List.length_map], fun k v d hv hd => ?_⟩
      have := hr k v (.val d) hv (by rw [List.getElem?_map, hd]; rfl)
      cases this with
      | val rp _ => exact rp
  · cases e
theorem items_tup (hh : Hold c F S env σ H) (h : IsR c F H σ r v T) {ds : List D} (e : r.items env = some (false, ds)) : ∃ a vs, v = .ref a ∧ SqT c.K F a vs ∧ vs.length = ds.length ∧ ∀ (k : Nat) v d, vs[k]? = some v → ds[k]? = some d → Rep c F v d := by
  obtain ⟨a, vs, h1, h2, h3⟩ := items_tupS hh h e
  exact ⟨a, vs, h1, .inl (.inl h2), h3⟩
theorem Go.wide {U U' : Set1} (g : Go F U H F1 S1 T H1) (h : ∀ x, U x → U' x) : Go F U' H F1 S1 T H1 :=
  ⟨g.exF, fun x u hu hn => g.fr x u hu fun z => hn (h x z), fun i x hx => (g.nS i x hx).imp_left (h x), fun x hx => (g.nT x hx).imp_left (h x), fun x hx => (g.nF x hx).imp_right (·.imp_left (h x)), g.dT, g.oT⟩
theorem temps_vals {vs : List V} {ds : List D} (l : vs.length = ds.length) (hr : ∀ (k : Nat) v d, vs[k]? = some v → ds[k]? = some d → Rep c F v d) : Temps c F S σ H ((ds.map O.val).map R.o) vs (fun _ => noT) := by
  refine ⟨by simpa using l, fun k r v hr' hv => ?_, fun i j x h => h.elim, fun k i x h => h.elim, fun k x h => h.elim, fun k x h => h.elim⟩
  rw [List.map_map, List.getElem?_map] at hr'
  obtain ⟨d, hd, rfl⟩ := Option.map_eq_some_iff.mp hr'
  exact RO.val (hr k v d hv hd) fun x h => h
theorem out_lst {Ts : Nat → Set1} {ds : List D} {vs : List V} (hh : Hold c F S env σ H) (l : vs.length = ds.length) (hr : ∀ (k : Nat) v d, vs[k]? = some v → ds[k]? = some d → Rep c F v d)
    (q : ∀ F' S' T v H', Go F (fun x => un S x ∨ un Ts x) H F' S' T H' → Hold c F' S' env σ H' → Kp env σ env σ → IsR c F' H' σ (.o (oLst ds)) v T → Q v H') : ∀ p, H p = none → Q (.ref p) (upd H p (.lst vs)) := fun p hp => by
  obtain ⟨g, h2, ro⟩ := new_lst hh (temps_vals (σ := σ) (S := S) l hr) hp
  exact q F S _ _ _ (g.wide fun x hx => hx.elim .inl fun ⟨k, z⟩ => z.elim) h2 Kp.rfl' ro
theorem vals_map (ds : List D) : vals (ds.map O.val) = some ds := by
  induction ds with
  | nil => rfl
  | cons d ds ih => show (vals (ds.map O.val)).map (d :: ·) = _; rw [ih]; rfl
theorem out_tup {Ts : Nat → Set1} {ds : List D} {vs : List V} (hh : Hold c F S env σ H) (l : vs.length = ds.length) (hr : ∀ (k : Nat) v d, vs[k]? = some v → ds[k]? = some d → Rep c F v d)
    (q : ∀ F' S' T v H', Go F (fun x => un S x ∨ un Ts x) H F' S' T H' → Hold c F' S' env σ H' → Kp env σ env σ → IsR c F' H' σ (.o (.val (.tup ds))) v T → Q v H') : ∀ p, H p = none → Q (.ref p) (upd H p (.tup vs)) := fun p hp => by
  obtain ⟨F', g, h2, ro⟩ := new_tup hh (temps_vals (σ := σ) (S := S) l hr) hp
  unfold mkTup at ro
  rw [vals_map] at ro
  exact q F' S _ _ _ (g.wide fun x hx => hx.elim .inl fun ⟨k, z⟩ => z.elim) h2 Kp.rfl' ro
theorem out_val {Ts : Nat → Set1} {d : D} (hh : Hold c F S env σ H) (hr : Rep c F v d)
    (q : ∀ F' S' T v H', Go F (fun x => un S x ∨ un Ts x) H F' S' T H' → Hold c F' S' env σ H' → Kp env σ env σ → IsR c F' H' σ (.o (.val d)) v T → Q v H') : Q v H :=
  q F S noT v H (Go.rfl' fun i x hx => .inl ⟨i, hx⟩) hh Kp.rfl' (RO.val hr fun x h => h)
theorem two {rs : List R} {vs : List V} {Ts : Nat → Set1} {r1 r2 : R} (t : Temps c F S σ H [r1, r2] vs Ts) : ∃ v1 v2, vs = [v1, v2] ∧ IsR c F H σ r1 v1 (Ts 0) ∧ IsR c F H σ r2 v2 (Ts 1) := by
  match vs, t with
  | [v1, v2], t => exact ⟨v1, v2, rfl, t.is 0 r1 v1 rfl rfl, t.is 1 r2 v2 rfl rfl⟩
  | [], t => have := t.len; simp at this
  | [_], t => have := t.len; simp at this
  | _ :: _ :: _ :: _, t => have := t.len; simp at this
theorem one {vs : List V} {Ts : Nat → Set1} {r1 : R} (t : Temps c F S σ H [r1] vs Ts) : ∃ v1, vs = [v1] ∧ IsR c F H σ r1 v1 (Ts 0) := by
  match vs, t with
  | [v1], t => exact ⟨v1, rfl, t.is 0 r1 v1 rfl rfl⟩
  | [], t => have := t.len; simp at this
  | _ :: _ :: _, t => have := t.len; simp at this
theorem app_get {vs ws : List V} {ds es : List D} (l : vs.length = ds.length) (hr : ∀ (k : Nat) v d, vs[k]? = some v → ds[k]? = some d → Rep c F v d) (hr2 : ∀ (k : Nat) v d, ws[k]? = some v → es[k]? = some d → Rep c F v d) (k : Nat) (v : V) (d : D) (hv : (vs ++ ws)[k]? = some v) (hd : (ds ++ es)[k]? = some d) : Rep c F v d := by
  by_cases hk : k < vs.length
  · rw [List.getElem?_append_left hk] at hv
    rw [List.getElem?_append_left (by omega)] at hd
    exact hr k v d hv hd
  · rw [List.getElem?_append_right (by omega)] at hv
    rw [List.getElem?_append_right (by omega), ← l] at hd
    exact hr2 _ v d hv hd
theorem op_catO : Op c (R2L fun x y H Q => rCat x y H Q ∨ rCatA c.K x y H Q) opCat := by
  intro F S env σ H rs vs Ts r' env' Q hh t hg q
  unfold opCat at hg
  split at hg
  · rename_i r1 r2 en
    obtain ⟨v1, v2, rfl, i1, i2⟩ := two (rs := []) t
    split at hg
    · rename_i xs ys e1 e2
      split at hg
      · rename_i hz
        cases hg
        obtain ⟨a, us, rfl, ha, la, ra⟩ := items_lst hh i1 e1
        obtain ⟨b, ws, rfl, hb, lb, rb⟩ := items_lst hh i2 e2
        refine ⟨_, _, rfl, .inl ⟨a, b, us, ws, rfl, rfl, ha, hb, by rw [la, lb]; exact maxLen_le hz, ?_⟩⟩
        exact out_lst hh (by rw [List.length_append, List.length_append, la, lb]) (app_get la ra rb) q
      · cases hg
    · rename_i xs ys e1 e2
      split at hg
      · rename_i hz
        cases hg
        obtain ⟨a, us, rfl, ha, la, ra⟩ := items_tupS hh i1 e1
        obtain ⟨b, ws, rfl, hb, lb, rb⟩ := items_tupS hh i2 e2
        refine ⟨_, _, rfl, .inr ⟨a, b, us, ws, rfl, rfl, .inl (.inl (hh.ex _ _ ha)), .inl (.inl (hh.ex _ _ hb)), by rw [la, lb]; exact maxLen_le hz, fun e => ?_, fun _ e => ?_, fun _ _ => ?_⟩⟩
        · subst e
          have : xs = [] := List.length_eq_zero_iff.mp la.symm
          subst this
          exact out_val hh (.tup hb lb rb) q
        · subst e
          have : ys = [] := List.length_eq_zero_iff.mp lb.symm
          subst this
          rw [List.append_nil] at q
          exact out_val hh (.tup ha la ra) q
        · exact out_tup hh (by rw [List.length_append, List.length_append, la, lb]) (app_get la ra rb) q
      · cases hg
    · cases hg
  · cases hg
theorem ixN_eq : ∀ n i, ixN' n i = ixN n i := fun n i => rfl
theorem ixN_lt {n j : Nat} {i : Int} (h : ixN' n i = some j) : j < n := by
  unfold ixN' at h
  split at h
  · split at h
    · cases h; omega
    · cases h
  · split at h
    · cases h; omega
    · cases h
theorem atI_of {vs : List V} {ds : List D} {i : Int} {d : D} (l : vs.length = ds.length) (h : atD ds i = some d) : ∃ (k : Nat) (v : V), atI vs i = some v ∧ vs[k]? = some v ∧ ds[k]? = some d := by
  unfold atD at h
  obtain ⟨j, hj, hd⟩ := Option.bind_eq_some_iff.mp h
  obtain ⟨v, d', hv, hd'⟩ := get_of_lt l (ixN_lt hj)
  refine ⟨j, v, ?_, hv, hd⟩
  unfold atI
  rw [l, ← ixN_eq, hj]
  exact hv
theorem op_ixO : Op c (R2L (rIx c.K)) opIx := by
  intro F S env σ H rs vs Ts r' env' Q hh t hg q
  unfold opIx at hg
  split at hg
  · rename_i r1 r2 en
    obtain ⟨v1, v2, rfl, i1, i2⟩ := two (rs := []) t
    split at hg
    · rename_i i e2
      have rp2 := i2.rep hh e2
      cases rp2
      split at hg
      · rename_i b ds e1
        obtain ⟨d, hd, e⟩ := Option.map_eq_some_iff.mp hg
        cases e
        cases b with
        | true =>
          obtain ⟨a, us, rfl, ha, la, ra⟩ := items_lst hh i1 e1
          obtain ⟨k, v, h1, h2, h3⟩ := atI_of la hd
          exact ⟨_, _, rfl, .inl ⟨a, us, i, v, rfl, rfl, .inl (.inl ha), h1, out_val hh (ra k v d h2 h3) q⟩⟩
        | false =>
          obtain ⟨a, us, rfl, ha, la, ra⟩ := items_tup hh i1 e1
          obtain ⟨k, v, h1, h2, h3⟩ := atI_of la hd
          exact ⟨_, _, rfl, .inr (.inl ⟨a, us, i, v, rfl, rfl, sqT_up hh.ex ha, h1, out_val hh (ra k v d h2 h3) q⟩)⟩
      · split at hg
        · rename_i s e1
          split at hg
          · rename_i hz
            obtain ⟨k, hk, e⟩ := Option.map_eq_some_iff.mp hg
            cases e
            have rp1 := i1.rep hh e1
            cases rp1
            refine ⟨_, _, rfl, .inr (.inr ⟨_, i, k, rfl, rfl, by rw [sv_len]; exact maxLen_le hz, hk, ?_⟩)⟩
            have : V.str ⟨#[k]⟩ = SV [k] := rfl
            rw [this]
            exact out_val hh (.str [k]) q
          · cases hg
        · cases hg
    · cases hg
  · cases hg
theorem op_or {r1 r2 : List V → Hp → VK → Prop} {g1 g2 : List R → VEnv → Option (R × VEnv)} (h1 : Op c r1 g1) (h2 : Op c r2 g2) : Op c (fun vs H Q => r1 vs H Q ∨ r2 vs H Q) (opOr g1 g2) := by
  intro F S env σ H rs vs Ts r' env' Q hh t hg q
  unfold opOr at hg
  cases e : g1 rs env with
  | some x => rw [e] at hg; cases hg; exact .inl (h1 F S env σ H rs vs Ts _ _ Q hh t e q)
  | none => rw [e] at hg; exact .inr (h2 F S env σ H rs vs Ts _ _ Q hh t hg q)
theorem op_mono {r1 r2 : List V → Hp → VK → Prop} {g : List R → VEnv → Option (R × VEnv)} (h : Op c r1 g) (i : ∀ vs H Q, r1 vs H Q → r2 vs H Q) : Op c r2 g :=
  fun F S env σ H rs vs Ts r' env' Q hh t hg q => i _ _ _ (h F S env σ H rs vs Ts r' env' Q hh t hg q)
theorem op_listO : Op c (fun xs H Q => ∃ p ys, xs = [V.ref p] ∧ (SqL c.K H p ys ∨ SqT c.K H p ys) ∧ ∀ l : Addr, H l = none → Q (V.ref l) (upd H l (HO.lst ys))) opList := by
  intro F S env σ H rs vs Ts r' env' Q hh t hg q
  unfold opList at hg
  split at hg
  · rename_i r1 en
    obtain ⟨v1, rfl, i1⟩ := one t
    obtain ⟨⟨b, ds⟩, e1, e⟩ := Option.map_eq_some_iff.mp hg
    cases e
    cases b with
    | true =>
      obtain ⟨a, us, rfl, ha, la, ra⟩ := items_lst hh i1 e1
      exact ⟨a, us, rfl, .inl (.inl (.inl ha)), out_lst hh la ra q⟩
    | false =>
      obtain ⟨a, us, rfl, ha, la, ra⟩ := items_tup hh i1 e1
      exact ⟨a, us, rfl, .inr (sqT_up hh.ex ha), out_lst hh la ra q⟩
  · cases hg
theorem op_tupleO : Op c (fun xs H Q => ∃ p ys, xs = [V.ref p] ∧ ((SqL c.K H p ys ∧ ∀ l : Addr, H l = none → Q (V.ref l) (upd H l (HO.tup ys))) ∨ SqT c.K H p ys ∧ Q (V.ref p) H)) opTuple := by
  intro F S env σ H rs vs Ts r' env' Q hh t hg q
  unfold opTuple at hg
  split at hg
  · rename_i r1 en
    obtain ⟨v1, rfl, i1⟩ := one t
    obtain ⟨⟨b, ds⟩, e1, e⟩ := Option.map_eq_some_iff.mp hg
    cases e
    cases b with
    | true =>
      obtain ⟨a, us, rfl, ha, la, ra⟩ := items_lst hh i1 e1
      exact ⟨a, us, rfl, .inl ⟨.inl (.inl ha), out_tup hh la ra q⟩⟩
    | false =>
      obtain ⟨a, us, rfl, ha, la, ra⟩ := items_tupS hh i1 e1
      exact ⟨a, us, rfl, .inr ⟨.inl (.inl (hh.ex _ _ ha)), out_val hh (.tup ha la ra) q⟩⟩
  · cases hg
theorem op_repO : Op c (R2L rRep) opRep := by
  intro F S env σ H rs vs Ts r' env' Q hh t hg q
  unfold opRep at hg
  split at hg
  · rename_i r1 r2 en
    obtain ⟨v1, v2, rfl, i1, i2⟩ := two (rs := []) t
    split at hg
    · rename_i xs k e1 e2
      split at hg
      · rename_i hz
        cases hg
        have rp2 := i2.rep hh e2
        cases rp2
        obtain ⟨a, us, rfl, ha, la, ra⟩ := items_lst hh i1 e1
        refine ⟨_, _, rfl, a, k, us, rfl, rfl, ha, hz.1, hz.2.1, by rw [la]; exact maxLen_le hz.2.2, ?_⟩
        refine out_lst hh ?_ ?_ q
        · induction k.toNat with
          | zero => rfl
          | succ n ih => rw [List.replicate_succ, List.replicate_succ, List.flatten_cons, List.flatten_cons, List.length_append, List.length_append, la, ih]
        · induction k.toNat with
          | zero => exact fun k v d hv => by simp at hv
          | succ n ih =>
            rw [List.replicate_succ, List.replicate_succ, List.flatten_cons, List.flatten_cons]
            exact app_get la ra ih
      · cases hg
    · cases hg
  · cases hg
end VS
namespace VS
open PySem L2
variable {c : Cn} {W : WX} {F F' F1 F2 H H' H1 H2 : Hp} {S S' S1 S2 : Nat → Set1} {T T' T1 T2 : Set1} {σ σ' : L2.St} {r : R} {v : V} {env env' : VEnv} {Q : VK} {fa fb fc : EV} {X : Cx}
def tVO (c : Cn) (W : WX) (f : M (Option Int)) : TO := fun σ H Q => ∃ F S env, Hold c F S env σ H ∧ ∃ res, f env = some res ∧ match res with
  | .ok b env' => ∀ F' S' H', Go F (un S) H F' S' noT H' → Hold c F' S' env' σ H' → Kp env σ env' σ → Q b H'
  | .ex e env' => EndX c W F S env σ H e env'
theorem v_nopart : PO X none (tVO c W eNoPart) := by
  have h : PO X none tNoPart := po_none
  refine ⟨fun pins s σ H Q I q => ?_⟩
  exact h.run pins s σ H Q I (by
    obtain ⟨F, S, env, hh, res, e, q⟩ := q
    cases e
    exact q F S H Go.rflS hh Kp.rfl')
theorem v_part {e : Expr} (ha : PE X e (tV c W fa)) : PO X (some e) (tVO c W (ePart fa)) := by
  have h : PO X (some e) (tPart (tV c W fa)) := po_some ha
  refine ⟨fun pins s σ H Q I q => h.run pins s σ H Q I ?_⟩
  obtain ⟨F, S, env, hh, res, e, q⟩ := q
  rcases bind_some e with ⟨r, e1, h1, e⟩ | ⟨x, e1, h1, rfl⟩
  · refine ⟨F, S, env, hh, _, h1, fun F1 S1 T1 v1 H1 g1 hh1 k1 is1 => ?_⟩
    split at e
    · cases e
      cases is1 with
      | val rp _ =>
        cases rp
        exact ⟨_, rfl, q F1 S1 H1 (g1.sub fun x h => h.elim) hh1 k1⟩
    · cases e
  · exact ⟨F, S, env, hh, _, h1, q⟩
theorem cut_get {vs : List V} {ds : List D} {lo hi : Option Int} (l : vs.length = ds.length) (hr : ∀ (k : Nat) v d, vs[k]? = some v → ds[k]? = some d → Rep c F v d) :
    (cutV vs lo hi).length = (cutD ds lo hi).length ∧ ∀ (k : Nat) v d, (cutV vs lo hi)[k]? = some v → (cutD ds lo hi)[k]? = some d → Rep c F v d := by
  have e : cutV vs lo hi = (vs.drop (sIx' ds.length 0 lo)).take (sIx' ds.length ds.length hi - sIx' ds.length 0 lo) := by
    unfold cutV
    rw [l]
    have q : ∀ n d x, HT.sIx n d x = sIx' n d x := fun n d x => by cases x <;> rfl
    rw [q, q]
  rw [e]
  unfold cutD
  refine ⟨by rw [List.length_take, List.length_take, List.length_drop, List.length_drop, l], fun k v d hv hd => ?_⟩
  rw [List.getElem?_take] at hv hd
  split at hv
  · rename_i hk
    rw [if_pos hk] at hd
    rw [List.getElem?_drop] at hv hd
    exact hr _ v d hv hd
  · cases hv
theorem sl_ok {r : R} {lo hi : Option Int} {r' : R} {Ts : Nat → Set1} (hh : Hold c F S env σ H) (is : IsR c F H σ r v T) (hg : opSl r lo hi env = some (r', env'))
    (q : ∀ F' S' T v H', Go F (fun x => un S x ∨ un Ts x) H F' S' T H' → Hold c F' S' env' σ H' → Kp env σ env' σ → IsR c F' H' σ r' v T → Q v H') : rSlL c.K v lo hi H Q ∨ rSlA c.K v lo hi H Q ∨ rSlS v lo hi H Q := by
  unfold opSl at hg
  split at hg
  · rename_i ds e
    cases hg
    obtain ⟨a, us, rfl, ha, la, ra⟩ := items_lst hh is e
    obtain ⟨l, g⟩ := cut_get (lo := lo) (hi := hi) la ra
    exact .inl ⟨a, us, rfl, .inl (.inl ha), out_lst hh l g q⟩
  · rename_i ds e
    cases hg
    obtain ⟨a, us, rfl, ha, la, ra⟩ := items_tupS hh is e
    obtain ⟨l, g⟩ := cut_get (lo := lo) (hi := hi) la ra
    refine .inr (.inl ⟨a, us, rfl, .inl (.inl (hh.ex _ _ ha)), fun ⟨e1, e2⟩ => ?_, fun _ => out_tup hh l g q⟩)
    have ew : cutD ds lo hi = ds := by
      have q : ∀ n d x, HT.sIx n d x = sIx' n d x := fun n d x => by cases x <;> rfl
      rw [la, q] at e1
      rw [la, q] at e2
      unfold cutD
      rw [e1, e2]
      simp
    rw [ew] at q
    exact out_val hh (.tup ha la ra) q
  · split at hg
    · rename_i s e
      split at hg
      · rename_i hz
        cases hg
        have rp := is.rep hh e
        cases rp
        refine .inr (.inr ⟨_, rfl, by rw [sv_len]; exact maxLen_le hz, ?_⟩)
        have : V.str (cutS ⟨s.toArray⟩ lo hi) = SV (cutD s lo hi) := by
          have q : ∀ n d x, HT.sIx n d x = sIx' n d x := fun n d x => by cases x <;> rfl
          unfold cutS SV cutD
          rw [sv_len, q, q]
        rw [this]
        exact out_val hh (.str _) q
      · cases hg
    · rename_i ns e
      cases hg
      have rp := is.rep hh e
      cases rp with
      | scr hs =>
        refine .inl ⟨_, _, rfl, hs, ?_⟩
        have ew : (cutD ns lo hi).map D.int = cutD (ns.map D.int) lo hi := by
          unfold cutD
          rw [List.length_map, List.map_take, List.map_drop]
        rw [ew] at q
        obtain ⟨l, g⟩ := cut_get (c := c) (F := F) (vs := ns.map V.int) (ds := ns.map D.int) (lo := lo) (hi := hi) (by simp) fun k v d hv hd => by
          rw [List.getElem?_map] at hv hd
          obtain ⟨n, hn, rfl⟩ := Option.map_eq_some_iff.mp hv
          rw [hn] at hd
          cases hd
          exact .int n
        exact out_lst hh l g q
    · cases hg
theorem Temps.at0 {rs : List R} {vs : List V} {Ts : Nat → Set1} (t : Temps c F S σ H (r :: rs) (v :: vs) Ts) : IsR c F H σ r v (Ts 0) := t.is 0 r v rfl rfl
theorem v_slice {e : Expr} {lo hi : Option Expr} {ml mh : M (Option Int)} {pos p2 : Pos} (hK : c.K = X.K) (ha : PE X e (tV c W fa)) (hl : PO X lo (tVO c W ml)) (hu : PO X hi (tVO c W mh)) :
    PE X (.Subscript e (.Slice lo hi none p2) pos) (tV c W (eSlice fa ml mh)) := by
  refine PE_imp (pe_slice (SlR.or sl_list (SlR.or sl_tupA sl_str)) ha hl hu) fun σ H Q h => ?_
  obtain ⟨F, S, env, hh, res, e, q⟩ := h
  rcases bind_some e with ⟨r, e1, h1, e⟩ | ⟨x, e1, h1, rfl⟩
  · refine ⟨F, S, env, hh, _, h1, fun F1 S1 T1 v1 H1 g1 hh1 k1 is1 => ?_⟩
    have t1 : Temps c F1 S1 σ H1 [r] [v1] _ := Temps.one is1 g1.dT g1.oT
    rcases bind_some e with ⟨l, e2, h2, e⟩ | ⟨x, e2, h2, rfl⟩
    · refine ⟨F1, S1, e1, hh1, _, h2, fun F2 S2 H2 g2 hh2 k2 => ?_⟩
      obtain ⟨t2, _⟩ := t1.go g2 t1.offU
      rcases bind_some e with ⟨u, e3, h3, e⟩ | ⟨x, e3, h3, rfl⟩
      · refine ⟨F2, S2, e2, hh2, _, h3, fun F3 S3 H3 g3 hh3 k3 => ?_⟩
        obtain ⟨t3, _⟩ := t2.go g3 t2.offU
        unfold M.lift at e
        obtain ⟨⟨r', e4⟩, h4, e⟩ := Option.map_eq_some_iff.mp e
        cases e
        rw [← hK]
        refine sl_ok (Ts := fun k x => k = 0 ∧ T1 x) hh3 t3.at0 h4 fun F4 S4 T4 v4 H4 g4 hh4 k4 is4 => q F4 S4 T4 v4 H4 ?_ hh4 ((k1.trans k2).trans (k3.trans k4)) is4
        have g13 : Go F (un S) H F3 S3 _ H3 := (g1.add (T' := T1) g2 (fun x h => .inl h) (fun x h => .inl h) (fun x h => t2.offF 0 x ⟨rfl, h⟩) fun i x h => t2.offS 0 i x ⟨rfl, h⟩).add (T' := T1) g3 (fun x h => .inl h) (fun x h => .inl h) (fun x h => t3.offF 0 x ⟨rfl, h⟩) fun i x h => t3.offS 0 i x ⟨rfl, h⟩
        exact g13.trans g4 fun x h => h.imp_right fun ⟨k, z⟩ => z.2
      · exact ⟨F2, S2, e2, hh2, _, h3, EndX_go g2 k2 (EndX_go g1 k1 q)⟩
    · exact ⟨F1, S1, e1, hh1, _, h2, EndX_go g1 k1 q⟩
  · exact ⟨F, S, env, hh, _, h1, q⟩
theorem tVT_mono {f : M Bool} {Q Q' : Bool → Hp → Prop} (h : tVT c W f σ H Q) (i : ∀ v H, Q v H → Q' v H) : tVT c W f σ H Q' := by
  obtain ⟨F, S, env, hh, res, e, q⟩ := h
  refine ⟨F, S, env, hh, res, e, ?_⟩
  cases res with
  | ok r env' => exact fun F' S' H' g h k => i _ _ (q F' S' H' g h k)
  | ex x env' => exact q
theorem test_of {Q : Bool → Hp → Prop} (h : tVT c W (eTest fa) σ H Q) : tV c W fa σ H (fun x H1 => ∃ k, x = .bl k ∧ Q k H1) := by
  obtain ⟨F, S, env, hh, res, e, q⟩ := h
  rcases bind_some e with ⟨r, e1, h1, e⟩ | ⟨x, e1, h1, rfl⟩
  · refine ⟨F, S, env, hh, _, h1, fun F1 S1 T1 v1 H1 g1 hh1 k1 is1 => ?_⟩
    split at e
    · cases e
      cases is1 with
      | val rp _ =>
        cases rp
        exact ⟨_, rfl, q F1 S1 H1 (g1.sub fun x h => h.elim) hh1 k1⟩
    · cases e
  · exact ⟨F, S, env, hh, _, h1, q⟩
theorem v_test {e : Expr} (ha : PT X e (tTest (tV c W fa))) : PT X e (tVT c W (eTest fa)) := PT_imp ha fun σ H Q h => test_of h
theorem v_testB {e : Expr} (ha : PT X e (tB (tV c W fa))) : PT X e (tVT c W (eTest fa)) := PT_imp ha fun σ H Q h => test_of h
theorem testBind {α : Type} {m : M Bool} {k : Bool → M α} {res : Res α} {Q : Bool → Hp → Prop} (hh : Hold c F S env σ H) (e : M.bind m k env = some res)
    (hx : ∀ x e1, res = .ex x e1 → EndX c W F S env σ H x e1) (hk : ∀ b e1 F1 S1 H1, Go F (un S) H F1 S1 noT H1 → Hold c F1 S1 e1 σ H1 → Kp env σ e1 σ → k b e1 = some res → Q b H1) : tVT c W m σ H Q := by
  rcases bind_some e with ⟨b, e1, h1, e⟩ | ⟨x, e1, h1, rfl⟩
  · exact ⟨F, S, env, hh, _, h1, fun F1 S1 H1 g1 hh1 k1 => hk b e1 F1 S1 H1 g1 hh1 k1 e⟩
  · exact ⟨F, S, env, hh, _, h1, hx x e1 rfl⟩
theorem v_and {ea eb : Expr} {ma mb : M Bool} {rest : List Expr} {pos : Pos} (ha : PT X ea (tVT c W ma)) (hb : PW X (.BoolOp .And (eb :: rest) pos) (tVT c W mb)) : PW X (.BoolOp .And (ea :: eb :: rest) pos) (tVT c W (eAnd ma mb)) :=
  PW_imp (pw_and ha hb) fun σ H Q h => by
    obtain ⟨F, S, env, hh, res, e, q⟩ := h
    refine testBind hh e (fun x e1 z => by subst z; exact q) fun b e1 F1 S1 H1 g1 hh1 k1 e => ?_
    cases b with
    | true =>
      rw [if_pos rfl] at e
      refine ⟨F1, S1, e1, hh1, res, e, ?_⟩
      cases res with
      | ok r e2 => exact fun F2 S2 H2 g2 hh2 k2 => q F2 S2 H2 (g1.transS g2) hh2 (k1.trans k2)
      | ex x e2 => exact EndX_go g1 k1 q
    | false =>
      rw [if_neg Bool.false_ne_true] at e
      cases e
      exact q F1 S1 H1 g1 hh1 k1
theorem v_or {ea eb : Expr} {ma mb : M Bool} {rest : List Expr} {pos : Pos} (ha : PT X ea (tVT c W ma)) (hb : PW X (.BoolOp .Or (eb :: rest) pos) (tVT c W mb)) : PW X (.BoolOp .Or (ea :: eb :: rest) pos) (tVT c W (eOr ma mb)) :=
  PW_imp (pw_or ha hb) fun σ H Q h => by
    obtain ⟨F, S, env, hh, res, e, q⟩ := h
    refine testBind hh e (fun x e1 z => by subst z; exact q) fun b e1 F1 S1 H1 g1 hh1 k1 e => ?_
    cases b with
    | true =>
      rw [if_pos rfl] at e
      cases e
      exact q F1 S1 H1 g1 hh1 k1
    | false =>
      rw [if_neg Bool.false_ne_true] at e
      refine ⟨F1, S1, e1, hh1, res, e, ?_⟩
      cases res with
      | ok r e2 => exact fun F2 S2 H2 g2 hh2 k2 => q F2 S2 H2 (g1.transS g2) hh2 (k1.trans k2)
      | ex x e2 => exact EndX_go g1 k1 q
theorem v_not {ea : Expr} {ma : M Bool} {pos : Pos} (ha : PT X ea (tVT c W ma)) : PT X (.UnaryOp .Not ea pos) (tVT c W (eNot ma)) :=
  PT_imp (pt_not ha) fun σ H Q h => by
    obtain ⟨F, S, env, hh, res, e, q⟩ := h
    refine testBind hh e (fun x e1 z => by subst z; exact q) fun b e1 F1 S1 H1 g1 hh1 k1 e => ?_
    cases e
    exact q F1 S1 H1 g1 hh1 k1
theorem v_notV {ea : Expr} {pos : Pos} (ha : PE X ea (tV c W fa)) : PE X (.UnaryOp .Not ea pos) (tV c W (eNotV fa)) :=
  PE_imp (pe_not ha) fun σ H Q h => by
    obtain ⟨F, S, env, hh, res, e, q⟩ := h
    have : tVT c W (eTest fa) σ H (fun k H1 => Q (.bl !k) H1) := by
      unfold eNotV ofB eNot at e
      rcases bind_some e with ⟨b, e1, h1, e⟩ | ⟨x, e1, h1, rfl⟩
      · cases e
        refine testBind hh h1 (fun x e1 z => by cases z) fun b' e1 F1 S1 H1 g1 hh1 k1 e => ?_
        cases e
        exact q F1 S1 noT _ H1 g1 hh1 k1 (RO.val (.bl _) fun x h => h)
      · exact testBind hh h1 (fun x' e1' z => by cases z; exact q) fun b' e1' F1 S1 H1 g1 hh1 k1 e => by cases e
    exact test_of this
theorem v_andV {ea eb : Expr} {rest : List Expr} {pos : Pos} (ha : PE X ea (tV c W fa)) (hb : PE X (.BoolOp .And (eb :: rest) pos) (tV c W fb)) : PE X (.BoolOp .And (ea :: eb :: rest) pos) (tV c W (eAndV fa fb)) :=
  PE_imp (pe_and ha hb) fun σ H Q h => by
    obtain ⟨F, S, env, hh, res, e, q⟩ := h
    refine test_of (testBind hh e (fun x e1 z => by subst z; exact q) fun b e1 F1 S1 H1 g1 hh1 k1 e => ?_)
    cases b with
    | true =>
      rw [if_pos rfl] at e ⊢
      refine ⟨F1, S1, e1, hh1, res, e, ?_⟩
      cases res with
      | ok r e2 => exact fun F2 S2 T2 v2 H2 g2 hh2 k2 is2 => q F2 S2 T2 v2 H2 (g1.transS g2) hh2 (k1.trans k2) is2
      | ex x e2 => exact EndX_go g1 k1 q
    | false =>
      rw [if_neg Bool.false_ne_true] at e ⊢
      cases e
      exact q F1 S1 noT _ H1 g1 hh1 k1 (RO.val (.bl _) fun x h => h)
theorem v_orV {ea eb : Expr} {rest : List Expr} {pos : Pos} (ha : PE X ea (tV c W fa)) (hb : PE X (.BoolOp .Or (eb :: rest) pos) (tV c W fb)) : PE X (.BoolOp .Or (ea :: eb :: rest) pos) (tV c W (eOrV fa fb)) :=
  PE_imp (pe_or ha hb) fun σ H Q h => by
    obtain ⟨F, S, env, hh, res, e, q⟩ := h
    refine test_of (testBind hh e (fun x e1 z => by subst z; exact q) fun b e1 F1 S1 H1 g1 hh1 k1 e => ?_)
    cases b with
    | true =>
      rw [if_pos rfl] at e ⊢
      cases e
      exact q F1 S1 noT _ H1 g1 hh1 k1 (RO.val (.bl _) fun x h => h)
    | false =>
      rw [if_neg Bool.false_ne_true] at e ⊢
      refine ⟨F1, S1, e1, hh1, res, e, ?_⟩
      cases res with
      | ok r e2 => exact fun F2 S2 T2 v2 H2 g2 hh2 k2 is2 => q F2 S2 T2 v2 H2 (g1.transS g2) hh2 (k1.trans k2) is2
      | ex x e2 => exact EndX_go g1 k1 q
theorem v_ifE {ea eb ec : Expr} {mc : M Bool} {pos : Pos} (hc : PT X ec (tVT c W mc)) (ha : PE X ea (tV c W fa)) (hb : PE X eb (tV c W fb)) : PE X (.IfExp ec ea eb pos) (tV c W (eIf mc fa fb)) :=
  PE_imp (pe_ifExp hc ha hb) fun σ H Q h => by
    obtain ⟨F, S, env, hh, res, e, q⟩ := h
    refine testBind hh e (fun x e1 z => by subst z; exact q) fun b e1 F1 S1 H1 g1 hh1 k1 e => ?_
    cases b with
    | true =>
      rw [if_pos rfl] at e ⊢
      refine ⟨F1, S1, e1, hh1, res, e, ?_⟩
      cases res with
      | ok r e2 => exact fun F2 S2 T2 v2 H2 g2 hh2 k2 is2 => q F2 S2 T2 v2 H2 (g1.transS g2) hh2 (k1.trans k2) is2
      | ex x e2 => exact EndX_go g1 k1 q
    | false =>
      rw [if_neg Bool.false_ne_true] at e ⊢
      refine ⟨F1, S1, e1, hh1, res, e, ?_⟩
      cases res with
      | ok r e2 => exact fun F2 S2 T2 v2 H2 g2 hh2 k2 is2 => q F2 S2 T2 v2 H2 (g1.transS g2) hh2 (k1.trans k2) is2
      | ex x e2 => exact EndX_go g1 k1 q
end VS
namespace VS
open PySem L2
variable {c : Cn} {W : WX} {F F' F1 F2 H H' H1 H2 : Hp} {S S' S1 S2 : Nat → Set1} {T T' T1 T2 : Set1} {σ σ' σ1 : L2.St} {r : R} {v : V} {env env' env1 : VEnv} {Q : VK} {fa fb fc : EV} {X : Cx}
def OutP (c : Cn) (D : Ends) (F : Hp) (T : Set1) (σ : L2.St) (H : Hp) : Out → Prop
  | .nx => D.nx σ H
  | .brk => D.bk σ H
  | .cnt => D.ct σ H
  | .ret x => ∀ v, RO c F H v x T → D.rt v H
def EndS (c : Cn) (W : WX) (F : Hp) (S : Nat → Set1) (env : VEnv) (σ : L2.St) (H : Hp) (e : Exc) (env' : VEnv) : Prop :=
  ∀ F' S' σ' H' cls d, Go F (un S) H F' S' noT H' → Hold c F' S' env' σ' H' → Kp env σ env' σ' → Thrown c F' H' e cls d → W cls d σ' H'
def PostS (c : Cn) (W : WX) (D : Ends) (F : Hp) (S : Nat → Set1) (env : VEnv) (σ : L2.St) (H : Hp) : Res Out → Prop
  | .ok out env' => ∀ F' S' T σ' H', Go F (un S) H F' S' T H' → Hold c F' S' env' σ' H' → Kp env σ env' σ' → OutP c D F' T σ' H' out
  | .ex e env' => EndS c W F S env σ H e env'
def tS (c : Cn) (W : WX) (f : SV1) : TS := fun D σ H => ∃ F S env, Hold c F S env σ H ∧ ∃ res, f env = some res ∧ PostS c W D F S env σ H res
theorem PostS_go {D : Ends} {res : Res Out} (g : Go F (un S) H F1 S1 T1 H1) (k : Kp env σ env1 σ1) (h : PostS c W D F S env σ H res) : PostS c W D F1 S1 env1 σ1 H1 res := by
  cases res with
  | ok out env' => exact fun F' S' T σ' H' g' hh k' => h F' S' T σ' H' (g.transS g') hh (k.trans k')
  | ex e env' => exact fun F' S' σ' H' cls d g' hh k' th => h F' S' σ' H' cls d (g.transS g') hh (k.trans k') th
theorem EndX_S {e : Exc} (h : EndS c W F S env σ H e env') : EndX c W F S env σ H e env' := fun F' S' H' cls d g hh k th => h F' S' σ H' cls d g hh k th
theorem exprS {k : R → SV1} {D : Ends} {K : VK} (h : tS c W (M.bind fa k) D σ H) (hk : ∀ r e1 F S env res F1 S1 T1 v H1, Go F (un S) H F1 S1 T1 H1 → Hold c F1 S1 e1 σ H1 → Kp env σ e1 σ → IsR c F1 H1 σ r v T1 → k r e1 = some res → PostS c W D F S env σ H res → K v H1) : tV c W fa σ H K := by
  obtain ⟨F, S, env, hh, res, e, q⟩ := h
  rcases bind_some e with ⟨r, e1, h1, e⟩ | ⟨x, e1, h1, rfl⟩
  · exact ⟨F, S, env, hh, _, h1, fun F1 S1 T1 v1 H1 g1 hh1 k1 is1 => hk r e1 F S env res F1 S1 T1 v1 H1 g1 hh1 k1 is1 e q⟩
  · exact ⟨F, S, env, hh, _, h1, EndX_S q⟩
theorem s_next {D : Ends} (h : tS c W sNext D σ H) : tNext D σ H := by
  obtain ⟨F, S, env, hh, res, e, q⟩ := h
  cases e
  exact q F S noT σ H Go.rflS hh Kp.rfl'
theorem s_break {D : Ends} (h : tS c W sBreak D σ H) : tBreak D σ H := by
  obtain ⟨F, S, env, hh, res, e, q⟩ := h
  cases e
  exact q F S noT σ H Go.rflS hh Kp.rfl'
theorem s_cont {D : Ends} (h : tS c W sCont D σ H) : tCont D σ H := by
  obtain ⟨F, S, env, hh, res, e, q⟩ := h
  cases e
  exact q F S noT σ H Go.rflS hh Kp.rfl'
theorem s_seq {D : Ends} {f g : SV1} (h : tS c W (sSeq f g) D σ H) : tSeq (tS c W f) (tS c W g) D σ H := by
  obtain ⟨F, S, env, hh, res, e, q⟩ := h
  rcases bind_some e with ⟨o, e1, h1, e⟩ | ⟨x, e1, h1, rfl⟩
  · refine ⟨F, S, env, hh, _, h1, fun F1 S1 T1 σ1 H1 g1 hh1 k1 => ?_⟩
    cases o with
    | nx => exact ⟨F1, S1, e1, hh1, res, e, PostS_go g1 k1 q⟩
    | brk => cases e; exact q F1 S1 T1 σ1 H1 g1 hh1 k1
    | cnt => cases e; exact q F1 S1 T1 σ1 H1 g1 hh1 k1
    | ret x => cases e; exact q F1 S1 T1 σ1 H1 g1 hh1 k1
  · exact ⟨F, S, env, hh, _, h1, q⟩
theorem s_drop {D : Ends} (h : tS c W (sDrop fa) D σ H) : tDrop (tV c W fa) D σ H :=
  exprS h fun r e1 F S env res F1 S1 T1 v H1 g1 hh1 k1 is1 e q => by
    cases e
    exact q F1 S1 T1 σ H1 g1 hh1 k1
theorem s_retN {D : Ends} (h : tS c W sRetN D σ H) : tRetN D σ H := by
  obtain ⟨F, S, env, hh, res, e, q⟩ := h
  cases e
  exact q F S noT σ H Go.rflS hh Kp.rfl' .non (RO.val .non fun x h => h)
theorem Hold.take {i : Nat} {y : O} (hh : Hold c F S env σ H) (h : env[i]? = some (Cell.loc y)) : ∃ v, σ[i]? = some (some v) ∧ RO c F H v y (S i) ∧ Hold c F (setS S i noT) (env.set i .no) σ H ∧ Go F (un S) H F (setS S i noT) (S i) H := by
  have ha := at_loc h
  have il := at_lt ha
  obtain ⟨v, hv, ro⟩ := hh.cell i y ha
  refine ⟨v, hv, ro, ?_, Same.rfl', fun _ _ h _ => h, fun j x hx => ?_, fun x hx => .inl ⟨i, hx⟩, fun x hx => .inl hx, fun j x hx hs => ?_, fun x hx => hh.off i x hx⟩
  · refine hh.one (T := noT) Same.rfl' hh.ex (fun j x u _ _ hu => hu) (fun j x _ hs => hh.off j x hs) (by simp) rfl (fun j hj => List.getElem?_set_ne (Ne.symm hj)) (fun _ _ => rfl) (fun o' ho' => ?_) (fun x hx => hx.elim) (fun j x _ hx => hx.elim) (fun x hx => hx.elim)
    unfold VEnv.at at ho'
    rw [List.getElem?_set_self il] at ho'
    cases ho'
  · by_cases e : j = i
    · subst e; rw [setS_at] at hx; exact hx.elim
    · rw [setS_ne e] at hx; exact .inl ⟨j, hx⟩
  · by_cases e : j = i
    · subst e; rw [setS_at] at hs; exact hs
    · rw [setS_ne e] at hs; exact e (hh.dis j i x hs hx)
theorem Kp_setno {i : Nat} : Kp env σ (env.set i .no) σ := fun j o' h => by
  by_cases e : j = i
  · subst e
    by_cases hl : j < env.length
    · rw [List.getElem?_set_self hl] at h; cases h
    · rw [List.getElem?_eq_none (by simp; omega)] at h; cases h
  · rw [List.getElem?_set_ne (Ne.symm e)] at h
    exact ⟨⟨o', h⟩, rfl⟩
theorem s_ret {D : Ends} (h : tS c W (sRet fa) D σ H) : tRet (tV c W fa) D σ H :=
  exprS h fun r e1 F S env res F1 S1 T1 v H1 g1 hh1 k1 is1 e q => by
    obtain ⟨⟨x, e2⟩, hm, e⟩ := Option.map_eq_some_iff.mp e
    cases e
    cases r with
    | o x' =>
      cases hm
      exact q F1 S1 T1 σ H1 g1 hh1 k1 v is1
    | b i =>
      simp only [R.move] at hm
      split at hm
      · rename_i y hy
        cases hm
        obtain ⟨v', hv, ro, hh2, g2⟩ := hh1.take hy
        rw [is1.1] at hv
        cases hv
        exact q F1 _ _ σ H1 (g1.transS g2) hh2 (k1.trans Kp_setno) v ro
      · cases hm
theorem s_if {D : Ends} {m : M Bool} {f g : SV1} (h : tS c W (sIf m f g) D σ H) : tIfS (tVT c W m) (tS c W f) (tS c W g) D σ H := by
  obtain ⟨F, S, env, hh, res, e, q⟩ := h
  refine testBind hh e (fun x e1 z => by subst z; exact EndX_S q) fun b e1 F1 S1 H1 g1 hh1 k1 e => ?_
  cases b with
  | true =>
    rw [if_pos rfl] at e ⊢
    exact ⟨F1, S1, e1, hh1, res, e, PostS_go g1 k1 q⟩
  | false =>
    rw [if_neg Bool.false_ne_true] at e ⊢
    exact ⟨F1, S1, e1, hh1, res, e, PostS_go g1 k1 q⟩
structure Kept (t : List Nat) (σ σ' : L2.St) : Prop where
  len : σ'.length = σ.length
  ne : ∀ j, j ∉ t → σ'[j]? = σ[j]?
def TgOk (c : Cn) (t : Tg) (g : TG) : Prop := ∀ F S env σ H v x T env' (Q : L2.St → Hp → Prop), Hold c F S env σ H → RO c F H v x T → (∀ i a, T a → ¬ S i a) → (∀ a, T a → F a = none) → t.set x env = some env' →
  (∀ S' σ', Go F (fun a => un S a ∨ T a) H F S' noT H → Hold c F S' env' σ' H → Kp env σ env' σ' → Kept t.slots σ σ' → Q σ' H) → g v σ H Q
def TgsOk (c : Cn) (l : List Tg) (g : TGs) : Prop := ∀ F S env σ H vs os (Ts : Nat → Set1) env' (Q : L2.St → Hp → Prop), Hold c F S env σ H → vs.length = os.length → (∀ (k : Nat) v o, vs[k]? = some v → os[k]? = some o → RO c F H v o (Ts k)) →
  (∀ i j x, Ts i x → Ts j x → i = j) → (∀ k i a, Ts k a → ¬ S i a) → (∀ k a, Ts k a → F a = none) → (∀ k a, Ts k a → k < os.length) → Tg.sets l os env = some env' →
  (∀ S' σ', Go F (fun a => un S a ∨ un Ts a) H F S' noT H → Hold c F S' env' σ' H → Kp env σ env' σ' → Kept (slotsL l) σ σ' → Q σ' H) → g vs σ H Q
theorem Kp_setloc2 {i : Nat} {o : O} : Kp env σ (env.set i (.loc o)) (σ.set i (some v)) := fun j o' h => by
  by_cases e : j = i
  · subst e
    by_cases hl : j < env.length
    · rw [List.getElem?_set_self hl] at h; cases h
    · rw [List.getElem?_eq_none (by simp; omega)] at h; cases h
  · rw [List.getElem?_set_ne (Ne.symm e)] at h
    exact ⟨⟨o', h⟩, List.getElem?_set_ne (Ne.symm e)⟩
theorem tg_name {i : Nat} : TgOk c (.name i) (gName i) := by
  intro F S env σ H v x T env' Q hh ro dS oF hs q
  have hs : setLoc i x env = some env' := by simpa [Tg.set] using hs
  unfold setLoc at hs
  have key : i < env.length → env' = env.set i (.loc x) → Q (σ.set i (some v)) H := fun il e => by
    subst e
    have il' : i < σ.length := by rw [← hh.len]; exact il
    refine q (setS S i T) _ ⟨Same.rfl', fun _ _ h _ => h, fun j a ha => ?_, fun a h => h.elim, fun a h => .inl h, fun j a h => h.elim, fun a h => h.elim⟩ ?_ Kp_setloc2 ⟨by simp, fun j hj => List.getElem?_set_ne (by rintro rfl; exact hj (by simp [Tg.slots]))⟩
    · by_cases e : j = i
      · subst e; rw [setS_at] at ha; exact .inl (.inr ha)
      · rw [setS_ne e] at ha; exact .inl (.inl ⟨j, ha⟩)
    · refine hh.one Same.rfl' hh.ex (fun j x u _ _ hu => hu) (fun j x _ hs => hh.off j x hs) (by simp) (by simp) (fun j hj => List.getElem?_set_ne (Ne.symm hj)) (fun j hj => List.getElem?_set_ne (Ne.symm hj)) (fun o' ho' => ?_) (fun a ha => ⟨x, at_loc (List.getElem?_set_self il)⟩) (fun j a _ ha => dS j a ha) oF
      rw [at_loc (List.getElem?_set_self il)] at ho'
      cases ho'
      exact ⟨v, List.getElem?_set_self il', ro⟩
  split at hs
  · cases hs
  · rename_i o ho
    cases hs
    exact key (by
      apply Classical.byContradiction
      intro hn
      rw [List.getElem?_eq_none (by omega)] at ho
      cases ho) rfl
  · cases hs
theorem tgs_nil : TgsOk c [] gNil := by
  intro F S env σ H vs os Ts env' Q hh hl hr dis dS oF bd hs q
  cases os with
  | nil =>
    cases vs with
    | nil =>
      have : env' = env := by simpa [Tg.sets] using hs.symm
      subst this
      exact ⟨rfl, q S σ (Go.rfl' fun i x h => .inl ⟨i, h⟩) hh Kp.rfl' ⟨rfl, fun _ _ => rfl⟩⟩
    | cons _ _ => cases hl
  | cons _ _ => simp [Tg.sets] at hs
theorem tgs_cons {t : Tg} {l : List Tg} {g : TG} {gs : TGs} (h1 : TgOk c t g) (h2 : TgsOk c l gs) : TgsOk c (t :: l) (gCons g gs) := by
  intro F S env σ H vs os Ts env' Q hh hl hr dis dS oF bd hs q
  cases os with
  | nil => simp [Tg.sets] at hs
  | cons x os =>
    cases vs with
    | nil => cases hl
    | cons v vs =>
      simp only [Tg.sets] at hs
      cases e1 : t.set x env with
      | none => rw [e1] at hs; cases hs
      | some en1 =>
        rw [e1] at hs
        simp only at hs
        refine ⟨v, vs, rfl, h1 F S env σ H v x (Ts 0) en1 _ hh (hr 0 v x rfl rfl) (dS 0) (oF 0) e1 fun S1 σ1 g1 hh1 k1 kp1 => ?_⟩
        refine h2 F S1 en1 σ1 H vs os (fun k => Ts (k + 1)) env' Q hh1 (by simpa using hl) (fun k v o hv ho => hr (k + 1) v o (by simpa using hv) (by simpa using ho)) (fun i j x hi hj => by have := dis _ _ x hi hj; omega) (fun k i a ha hs1 => ?_) (fun k => oF (k + 1)) (fun k a ha => by have := bd _ a ha; simpa using this) hs fun S2 σ2 g2 hh2 k2 kp2 => ?_
        · rcases g1.nS i a hs1 with (⟨j, hj⟩ | hj) | hn
          · exact dS (k + 1) j a ha hj
          · have := dis _ _ a ha hj
            omega
          · have hb := bd (k + 1) a ha
            obtain ⟨w, o, hw, ho⟩ := get_of_lt hl hb
            obtain ⟨u, hu, _⟩ := (hr (k + 1) w o hw ho).own a ha
            rw [hn] at hu
            cases hu
        · refine q S2 σ2 ?_ hh2 (k1.trans k2) ⟨kp2.len.trans kp1.len, fun j hj => ?_⟩
          · have wide : ∀ a, un S1 a → un S a ∨ Ts 0 a := fun a ⟨i, ha⟩ => by
              rcases g1.nS i a ha with h | hn
              · exact h
              · obtain ⟨u, hu, _⟩ := hh1.own ha
                rw [hn] at hu; cases hu
            refine ⟨Same.rfl', fun _ _ h _ => h, fun i a ha => ?_, fun a h => h.elim, fun a h => .inl h, fun j a h => h.elim, fun a h => h.elim⟩
            rcases g2.nS i a ha with (h | ⟨k, hk⟩) | hn
            · rcases wide a h with h | h
              · exact .inl (.inl h)
              · exact .inl (.inr ⟨0, h⟩)
            · exact .inl (.inr ⟨k + 1, hk⟩)
            · exact .inr hn
          · have : j ∉ t.slots ∧ j ∉ slotsL l := by simpa [slotsL] using hj
            rw [kp2.ne j this.2, kp1.ne j this.1]
theorem RO.kids {x : O} {os : List O} (ro : RO c F H v x T) (h : x.kids = some os) : ∃ (a : Addr) (vs : List V) (Ts : Nat → Set1), v = .ref a ∧ SqT c.K F a vs ∧ vs.length = os.length ∧ (∀ (k : Nat) v o, vs[k]? = some v → os[k]? = some o → RO c F H v o (Ts k)) ∧
    (∀ i j x, Ts i x → Ts j x → i = j) ∧ (∀ k a, Ts k a → k < os.length) ∧ (∀ a, T a ↔ ∃ k, Ts k a) := by
  unfold O.kids at h
  split at h
  · cases h
    cases ro with
    | val rp hn =>
      cases rp with
      | tup h1 l hr =>
        refine ⟨_, _, fun _ => noT, rfl, .inl (.inl h1), by simpa using l, fun k v o hv ho => ?_, fun i j x h => h.elim, fun k a h => h.elim, fun a => ⟨fun h => absurd h (hn a), fun ⟨k, h⟩ => h.elim⟩⟩
        rw [List.getElem?_map] at ho
        obtain ⟨d, hd, rfl⟩ := Option.map_eq_some_iff.mp ho
        exact .val (hr k v d hv hd) fun x h => h
  · cases h
    cases ro with
    | tup S h1 l hr dj bd hT => exact ⟨_, _, S, rfl, .inl (.inl h1), l, hr, dj, bd, hT⟩
  · cases h
theorem tg_tup {l : List Tg} {g : TGs} {n : Nat} (h : TgsOk c l g) (hn : l.length = n) : TgOk c (.tup l) (gTup c.K n g) := by
  intro F S env σ H v x T env' Q hh ro dS oF hs q
  simp only [Tg.set] at hs
  cases e : x.kids with
  | none => rw [e] at hs; cases hs
  | some os =>
    rw [e] at hs
    simp only at hs
    obtain ⟨a, vs, Ts, rfl, h1, hl, hr, dis, bd, hT⟩ := ro.kids e
    have ln : ∀ (l : List Tg) (os : List O) (en : VEnv), Tg.sets l os en = some env' → l.length = os.length := by
      intro l
      induction l with
      | nil => intro os en h; cases os with
        | nil => rfl
        | cons _ _ => simp [Tg.sets] at h
      | cons t l ih => intro os en h; cases os with
        | nil => simp [Tg.sets] at h
        | cons x os =>
          simp only [Tg.sets] at h
          split at h
          · have := ih _ _ h; simp [this]
          · cases h
    refine ⟨a, vs, rfl, sqT_up hh.ex h1, by rw [hl, ← hn, ln l os env hs], h F S env σ H vs os Ts env' Q hh hl hr dis (fun k i a ha => dS i a ((hT a).mpr ⟨k, ha⟩)) (fun k a ha => oF a ((hT a).mpr ⟨k, ha⟩)) bd hs fun S' σ' g hh' k kp => q S' σ' (g.wide fun a h => h.imp_right fun h => (hT a).mpr h) hh' k (by simpa [Tg.slots] using kp)⟩
theorem s_asg {t : Tg} {g : TG} {D : Ends} (ht : TgOk c t g) (h : tS c W (sAsg t fa) D σ H) : tAsg (tV c W fa) g D σ H :=
  exprS h fun r e1 F S env res F1 S1 T1 v H1 g1 hh1 k1 is1 e q => by
    cases hs : r.settle e1 with
    | none => rw [hs] at e; cases e
    | some p =>
      obtain ⟨x, e2⟩ := p
      rw [hs] at e
      simp only [M.liftE] at e
      obtain ⟨e3, h3, e⟩ := Option.map_eq_some_iff.mp e
      cases e
      have t1 : Temps c F1 S1 σ H1 [r] [v] _ := Temps.one is1 g1.dT g1.oT
      obtain ⟨F2, S2, hh2, t2, g2, k2⟩ := settles_ok (os := [x]) hh1 t1 (by unfold settles; rw [hs]; rfl)
      have is2 : RO c F2 H1 v x _ := t2.is 0 (.o x) v rfl rfl
      refine ht F2 S2 e2 σ H1 v x _ e3 D.nx hh2 is2 (fun i a ha => t2.offS 0 i a ha) (fun a ha => t2.offF 0 a ha) h3 fun S3 σ3 g3 hh3 k3 _ => ?_
      refine q F2 S3 noT σ3 H1 ?_ hh3 ((k1.trans k2).trans k3)
      exact (g1.add (T' := fun x => (0 : Nat) = 0 ∧ T1 x) g2 (fun x h => .inl h) (fun x h => .inl h.2) (fun x h => t2.offF 0 x ⟨rfl, h⟩) fun i x h => t2.offS 0 i x ⟨rfl, h⟩).trans g3 fun x h => h
end VS
namespace VS
open PySem L2
variable {c : Cn} {W : WX} {F F' F1 F2 H H' H1 H2 : Hp} {S S' S1 S2 : Nat → Set1} {T T' T1 T2 : Set1} {σ σ' σ1 : L2.St} {r : R} {v : V} {env env' env1 : VEnv} {Q : VK} {fa fb fc : EV} {X : Cx}
def Yl (c : Cn) (F H : Hp) (x : V) (H' : Hp) (d : D) : Prop := ∃ F', Same F F' ∧ Rep c F' x d ∧ Same H H' ∧ Same F' H' ∧ ∀ a, F' a ≠ none → F a ≠ none ∨ H a = none ∨ ∃ xs, H a = some (.tup xs)
structure Wk (c : Cn) (J : It) (ds : List D) (P : Hp → Prop) : Prop where
  up : ∀ F F', P F → Same F F' → P F'
  go : ∀ i F H, P F → Same F H → i < ds.length → J.go i H
  stop : ∀ F H, P F → Same F H → J.stop ds.length H
  yld : ∀ i F H x H' d, P F → Same F H → J.yld i H x H' → ds[i]? = some d → Yl c F H x H' d
theorem Hold.yl {x : V} {d : D} (hh : Hold c F S env σ H) (y : Yl c F H x H' d) : ∃ F', Hold c F' S env σ H' ∧ Go F (un S) H F' S noT H' ∧ Rep c F' x d := by
  obtain ⟨F', eF, rp, eH, eFH, nF⟩ := y
  refine ⟨F', hh.heap eF eFH (fun j x u _ hu => eH x u hu) (fun j x hs => none_of_ne fun hn => ?_), ⟨eF, fun x u hu _ => eH x u hu, fun i x hs => .inl ⟨i, hs⟩, fun x h => h.elim, fun x hx => (nF x hx).imp_right .inr, fun i x h => h.elim, fun x h => h.elim⟩, rp⟩
  obtain ⟨u, hu, mu⟩ := hh.own hs
  rcases nF x hn with h | h | ⟨xs, h⟩
  · exact h (hh.off j x hs)
  · rw [h] at hu; cases hu
  · rw [h] at hu; cases hu; exact mu
def tI (c : Cn) (W : WX) (it : M (List D)) : TI := fun σ H K => ∃ F S env, Hold c F S env σ H ∧ ∃ res, it env = some res ∧ match res with
  | .ok ds env' => ∀ F' S' J P H', Go F (un S) H F' S' noT H' → Hold c F' S' env' σ H' → Kp env σ env' σ → Wk c J ds P → P F' → K J H'
  | .ex e env' => EndX c W F S env σ H e env'
theorem PI_imp {tg it : Expr} {t t' : TI} (h : PI X tg it t) (i : ∀ σ H Q, t' σ H Q → t σ H Q) : PI X tg it t' := ⟨fun pins s σ H Q I q => h.run pins s σ H Q I (i σ H Q q)⟩
theorem PI_or {tg it : Expr} {t t' : TI} (h : PI X tg it t) (h' : PI X tg it t') : PI X tg it (fun σ H Q => t σ H Q ∨ t' σ H Q) := ⟨fun pins s σ H Q I q => q.elim (h.run pins s σ H Q I) (h'.run pins s σ H Q I)⟩
theorem yl_same {x : V} {d : D} (eF : Same F H) (r : Rep c F x d) : Yl c F H x H d := ⟨F, Same.rfl', r, Same.rfl', eF, fun a h => .inl h⟩
theorem rd_of (e : Same F H) {a : Addr} {xs : List V} (h : F a = some (.lst xs)) : SqL c.K H a xs := .inl (.inl (e a _ h))
theorem sqL_fn {K : PySem.W.Frag} {a : Addr} {xs ys : List V} (h : H a = some (.lst xs)) (hK : K.lookup a = none ∨ True) (h' : Rd H a (.lst ys)) : xs = ys := by
  rcases h' with h' | ⟨o, h'⟩
  · rw [h] at h'; cases h'; rfl
  · rw [h] at h'; cases h'
theorem wk_list {a : Addr} {vs : List V} {ds : List D} (l : vs.length = ds.length) (hr : ∀ (k : Nat) v d, vs[k]? = some v → ds[k]? = some d → Rep c F v d) (hF : F a = some (.lst vs)) : Wk c (Itl c.K a) ds (fun F' => Same F F') := by
  refine ⟨fun F1 F2 p e a o h => e a o (p a o h), fun i F1 H p e hi => ?_, fun F1 H p e => ?_, fun i F1 H x H' d p e y hd => ?_⟩
  · obtain ⟨v, d, hv, hd⟩ := get_of_lt l hi
    exact ⟨vs, v, rd_of e (p a _ hF), hv⟩
  · exact ⟨vs, rd_of e (p a _ hF), by omega⟩
  · obtain ⟨rfl, y⟩ := y
    have hv := y vs (rd_of e (p a _ hF))
    exact yl_same e ((hr i x d hv hd).up p)
theorem wk_tup {a : Addr} {vs : List V} {ds : List D} (l : vs.length = ds.length) (hr : ∀ (k : Nat) v d, vs[k]? = some v → ds[k]? = some d → Rep c F v d) (hF : SqT c.K F a vs) : Wk c (Itt c.K a) ds (fun F' => Same F F') := by
  refine ⟨fun F1 F2 p e a o h => e a o (p a o h), fun i F1 H p e hi => ?_, fun F1 H p e => ?_, fun i F1 H x H' d p e y hd => ?_⟩
  · obtain ⟨v, d, hv, hd⟩ := get_of_lt l hi
    exact ⟨vs, v, sqT_up e (sqT_up p hF), hv⟩
  · exact ⟨vs, sqT_up e (sqT_up p hF), by omega⟩
  · obtain ⟨rfl, y⟩ := y
    have hv := y vs (sqT_up e (sqT_up p hF))
    exact yl_same e ((hr i x d hv hd).up p)
theorem wk_range {lo : Int} {n : Nat} : Wk c (Itr lo n) ((List.range n).map fun (k : Nat) => D.int (lo + k)) (fun _ => True) := by
  refine ⟨fun _ _ _ _ => trivial, fun i F H _ _ hi => by simpa [Itr] using hi, fun F H _ _ => by simp [Itr], fun i F H x H' d _ e y hd => ?_⟩
  obtain ⟨rfl, rfl⟩ := y
  rw [List.getElem?_map] at hd
  obtain ⟨k, hk, rfl⟩ := Option.map_eq_some_iff.mp hd
  obtain ⟨_, hk⟩ := List.getElem?_eq_some_iff.mp hk
  rw [List.getElem_range] at hk
  subst hk
  exact yl_same e (.int _)
theorem exprI {k : R → M (List D)} {K : It → Hp → Prop} {K' : VK} (h : tI c W (M.bind fa k) σ H K) (hk : ∀ r e1 F1 S1 (T1 : Set1) v H1 res, Hold c F1 S1 e1 σ H1 → Temps c F1 S1 σ H1 [r] [v] (fun k x => k = 0 ∧ T1 x) → k r e1 = some res →
    (match res with
     | .ok ds env' => ∀ F' S' J P H', Go F1 (fun x => un S1 x ∨ T1 x) H1 F' S' noT H' → Hold c F' S' env' σ H' → Kp e1 σ env' σ → Wk c J ds P → P F' → K J H'
     | .ex e env' => EndX c W F1 S1 e1 σ H1 e env') → K' v H1) : tV c W fa σ H K' := by
  obtain ⟨F, S, env, hh, res, e, q⟩ := h
  rcases bind_some e with ⟨r, e1, h1, e⟩ | ⟨x, e1, h1, rfl⟩
  · refine ⟨F, S, env, hh, _, h1, fun F1 S1 T1 v1 H1 g1 hh1 k1 is1 => hk r e1 F1 S1 T1 v1 H1 res hh1 (Temps.one is1 g1.dT g1.oT) e ?_⟩
    cases res with
    | ok ds env' => exact fun F' S' J P H' g' hh' k' w p => q F' S' J P H' (g1.trans g' fun x h => h) hh' (k1.trans k') w p
    | ex x env' => exact EndX_go g1 k1 q
  · exact ⟨F, S, env, hh, _, h1, q⟩
theorem rep_data {x : O} (ro : RO c F H v x T) (oF : ∀ a, T a → F a = none) (eF : Same F H) : ∃ F', Same F F' ∧ Same F' H ∧ Rep c F' v x.data ∧ ∀ a, F' a ≠ none → F a ≠ none ∨ T a := by
  obtain ⟨F', hF1, hF2⟩ : ∃ F' : Hp, (∀ x, T x → F' x = H x) ∧ (∀ x, ¬ T x → F' x = F x) := by
    refine ⟨fun x => @ite _ (T x) (Classical.propDecidable _) (H x) (F x), fun x hx => ?_, fun x hx => ?_⟩
    · exact if_pos hx
    · exact if_neg hx
  have e1 : Same F F' := fun a u e => by
    rw [hF2 a fun hs => by rw [oF a hs] at e; cases e]
    exact e
  refine ⟨F', e1, fun a u e => ?_, ro.rep e1 fun x u hx hu => by rw [hF1 x hx]; exact hu, fun a h => ?_⟩
  · by_cases hs : T a
    · rw [hF1 a hs] at e; exact e
    · rw [hF2 a hs] at e; exact eF a u e
  · by_cases hs : T a
    · exact .inr hs
    · rw [hF2 a hs] at h; exact .inl h
theorem v_itList {tg : Expr} {e : Expr} (hK : c.K = X.K) (ha : PE X e (tV c W fa)) (h1 : PI X tg e (iList X.K (tV c W fa))) (h2 : PI X tg e (iTup X.K (tV c W fa))) : PI X tg e (tI c W (itList fa)) := by
  refine PI_imp (PI_or h1 h2) fun σ H K h => ?_
  have key : ∀ (r : R) (e1 : VEnv) F1 S1 (T1 : Set1) v H1 ds env', Hold c F1 S1 e1 σ H1 → Temps c F1 S1 σ H1 [r] [v] (fun k x => k = 0 ∧ T1 x) → (match r.settle e1 with
      | some (x, e1) => match x.data with
        | .lst ds => some (Res.ok ds e1)
        | .tup ds => some (Res.ok ds e1)
        | _ => none
      | none => none) = some (Res.ok ds env') → ∃ x F2 S2, r.settle e1 = some (x, env') ∧ (x.data = .lst ds ∨ x.data = .tup ds) ∧ Hold c F2 S2 env' σ H1 ∧ Go F1 (fun x => un S1 x ∨ T1 x) H1 F2 S2 noT H1 ∧ Kp e1 σ env' σ ∧ Rep c F2 v x.data := by
    intro r e1 F1 S1 T1 v H1 ds env' hh1 t1 e
    cases hs : r.settle e1 with
    | none => rw [hs] at e; cases e
    | some p =>
      obtain ⟨x, e2⟩ := p
      rw [hs] at e
      simp only at e
      have hd : (x.data = .lst ds ∨ x.data = .tup ds) ∧ e2 = env' := by
        split at e
        · rename_i q; cases e; exact ⟨.inl q, rfl⟩
        · rename_i q; cases e; exact ⟨.inr q, rfl⟩
        · cases e
      obtain ⟨hd, rfl⟩ := hd
      obtain ⟨F2, S2, hh2, t2, g2, k2⟩ := settles_ok (os := [x]) hh1 t1 (by unfold settles; rw [hs]; rfl)
      have ro : RO c F2 H1 v x _ := t2.is 0 (.o x) v rfl rfl
      obtain ⟨F3, eF, eH, rp, nF⟩ := rep_data ro (fun a h => t2.offF 0 a h) hh2.ex
      refine ⟨x, F3, S2, rfl, hd, ⟨eH, hh2.len, fun i o ho => ?_, hh2.dis, fun i a hs => none_of_ne fun hn => ?_, hh2.dead⟩, ?_, k2, rp⟩
      · obtain ⟨w, hw, ro⟩ := hh2.cell i o ho
        exact ⟨w, hw, ro.up eF fun x u _ hu => hu⟩
      · rcases nF a hn with h | h
        · exact h (hh2.off i a hs)
        · exact t2.offS 0 i a h hs
      · refine ⟨fun a u h => eF a u (g2.exF a u h), fun x u hu _ => hu, fun i x h => (g2.nS i x h).imp_left .inl, fun x h => h.elim, fun a h => ?_, fun i x h => h.elim, fun x h => h.elim⟩
        rcases nF a h with h | h
        · exact (g2.nF a h).imp_right (·.imp_left .inl)
        · exact .inr (.inl (.inr h.2))
  have h0 := h
  obtain ⟨F, S, env, hh, res, e, q⟩ := h
  rcases bind_some e with ⟨r, e1, hf, e⟩ | ⟨x, e1, hf, rfl⟩
  · cases res with
    | ex x e2 => exfalso; revert e; cases r.settle e1 with
      | none => exact fun e => by cases e
      | some p => simp only; split <;> exact fun e => by cases e
    | ok ds env' =>
      have hd : ∃ x, r.settle e1 = some (x, env') ∧ (x.data = .lst ds ∨ x.data = .tup ds) := by
        cases hs : r.settle e1 with
        | none => rw [hs] at e; cases e
        | some p =>
          obtain ⟨x, e2⟩ := p
          rw [hs] at e
          simp only at e
          split at e
          · rename_i q; cases e; exact ⟨x, rfl, .inl q⟩
          · rename_i q; cases e; exact ⟨x, rfl, .inr q⟩
          · cases e
      obtain ⟨x, hx, hd⟩ := hd
      rcases hd with hd | hd
      · refine .inl ⟨F, S, env, hh, _, hf, fun F1 S1 T1 v1 H1 g1 hh1 k1 is1 => ?_⟩
        obtain ⟨x', F2, S2, hx', hd', hh2, g2, k2, rp⟩ := key r e1 F1 S1 T1 v1 H1 ds env' hh1 (Temps.one is1 g1.dT g1.oT) e
        rw [hx] at hx'
        cases hx'
        rw [hd] at rp
        cases rp with
        | lst hF l hr =>
          refine ⟨_, rfl, ⟨_, .inl (.inl (hh2.ex _ _ hF))⟩, ?_⟩
          rw [← hK]
          exact q F2 S2 _ _ H1 (g1.trans g2 fun x h => h) hh2 (k1.trans k2) (wk_list l hr hF) Same.rfl'
      · refine .inr ⟨F, S, env, hh, _, hf, fun F1 S1 T1 v1 H1 g1 hh1 k1 is1 => ?_⟩
        obtain ⟨x', F2, S2, hx', hd', hh2, g2, k2, rp⟩ := key r e1 F1 S1 T1 v1 H1 ds env' hh1 (Temps.one is1 g1.dT g1.oT) e
        rw [hx] at hx'
        cases hx'
        rw [hd] at rp
        cases rp with
        | tup hF l hr =>
          refine ⟨_, rfl, ⟨_, by rw [← hK]; exact .inl (.inl (hh2.ex _ _ hF))⟩, ?_⟩
          rw [← hK]
          exact q F2 S2 _ _ H1 (g1.trans g2 fun x h => h) hh2 (k1.trans k2) (wk_tup l hr (.inl (.inl hF))) Same.rfl'
  · exact .inl ⟨F, S, env, hh, _, hf, q⟩
theorem s_for {it : M (List D)} {t : Tg} {body : SV1} {g : TG} {D : Ends} (ht : TgOk c t g) (h : tS c W (sFor it t body) D σ H) : tFor (tI c W it) g (tS c W body) D σ H := by
  obtain ⟨F, S, env, hh, res, e, q⟩ := h
  rcases bind_some e with ⟨ds, e1, h1, e⟩ | ⟨x, e1, h1, rfl⟩
  · refine ⟨F, S, env, hh, _, h1, fun F1 S1 J P H1 g1 hh1 k1 w p => ?_⟩
    refine ⟨fun i m σ' H' => i ≤ ds.length ∧ m = ds.length - i ∧ ∃ F2 S2 env2, Hold c F2 S2 env2 σ' H' ∧ P F2 ∧ forL t body (ds.drop i) env2 = some res ∧ PostS c W D F2 S2 env2 σ' H' res,
      ⟨ds.length, Nat.zero_le _, by simp, F1, S1, e1, hh1, p, by simpa using e, PostS_go g1 k1 q⟩, ?_⟩
    rintro i m σ2 H2 ⟨hi, rfl, F2, S2, env2, hh2, p2, e2, q2⟩
    by_cases hlt : i < ds.length
    · have ed : ds.drop i = ds[i] :: ds.drop (i + 1) := List.drop_eq_getElem_cons hlt
      have hdi : ds[i]? = some ds[i] := List.getElem?_eq_getElem hlt
      rw [ed] at e2
      refine .inr ⟨w.go i F2 H2 p2 hh2.ex hlt, fun σ' H' => i + 1 ≤ ds.length ∧ ∃ F3 S3 env3, Hold c F3 S3 env3 σ' H' ∧ P F3 ∧ forL t body (ds.drop (i + 1)) env3 = some res ∧ PostS c W D F3 S3 env3 σ' H' res, fun σ' H' ⟨a1, a2⟩ => ⟨_, by omega, a1, rfl, a2⟩, fun x H3 y => ?_⟩
      obtain ⟨F3, hh3, g3, rp⟩ := hh2.yl (w.yld i F2 H2 x H3 _ p2 hh2.ex y hdi)
      unfold forL at e2
      cases hs : t.set (.val ds[i]) env2 with
      | none => rw [hs] at e2; cases e2
      | some e3 =>
        rw [hs] at e2
        simp only at e2
        refine ht F3 S2 env2 σ2 H3 x (.val ds[i]) noT e3 _ hh3 (.val rp fun x h => h) (fun i a h => h.elim) (fun a h => h.elim) hs fun S4 σ4 g4 hh4 k4 _ => ?_
        have g24 : Go F2 (un S2) H2 F3 S4 noT H3 := g3.trans g4 fun x h => h
        cases hb : body e3 with
        | none => rw [hb] at e2; cases e2
        | some rb =>
          rw [hb] at e2
          refine ⟨F3, S4, e3, hh4, rb, hb, ?_⟩
          cases rb with
          | ex x e =>
            cases e2
            exact PostS_go (T1 := noT) g24 k4 q2
          | ok o e4 =>
            intro F5 S5 T5 σ5 H5 g5 hh5 k5
            have g25 := g24.transS g5
            have p5 : P F5 := w.up _ _ p2 g25.exF
            cases o with
            | nx => exact ⟨hlt, F5, S5, e4, hh5, p5, e2, PostS_go g25 (k4.trans k5) q2⟩
            | cnt => exact ⟨hlt, F5, S5, e4, hh5, p5, e2, PostS_go g25 (k4.trans k5) q2⟩
            | brk => cases e2; exact q2 F5 S5 T5 σ5 H5 g25 hh5 (k4.trans k5)
            | ret x => cases e2; exact q2 F5 S5 T5 σ5 H5 g25 hh5 (k4.trans k5)
    · have e0 : i = ds.length := by omega
      subst e0
      rw [List.drop_length] at e2
      cases e2
      exact .inl ⟨w.stop F2 H2 p2 hh2.ex, q2 F2 S2 noT σ2 H2 Go.rflS hh2 Kp.rfl'⟩
  · exact ⟨F, S, env, hh, _, h1, EndX_S q⟩
theorem s_while {m : M Bool} {body : SV1} {D : Ends} (h : tS c W (sWhile m body) D σ H) : tWhile (tVT c W m) (tS c W body) D σ H := by
  obtain ⟨F, S, env, hh, res, e, q⟩ := h
  obtain ⟨n, e⟩ := sWhile_inv e
  refine ⟨fun k σ' H' => ∃ F2 S2 env2, Hold c F2 S2 env2 σ' H' ∧ iterW m body k env2 = some res ∧ PostS c W D F2 S2 env2 σ' H' res, ⟨n, F, S, env, hh, e, q⟩, ?_⟩
  rintro k σ2 H2 ⟨F2, S2, env2, hh2, e2, q2⟩
  cases k with
  | zero => cases e2
  | succ k =>
    unfold iterW at e2
    refine testBind hh2 e2 (fun x e1 z => by subst z; exact EndX_S q2) fun b e3 F3 S3 H3 g3 hh3 k3 e3' => ?_
    cases b with
    | false =>
      rw [if_neg Bool.false_ne_true] at e3' ⊢
      cases e3'
      exact q2 F3 S3 noT σ2 H3 g3 hh3 k3
    | true =>
      rw [if_pos rfl] at e3' ⊢
      refine ⟨fun σ' H' => ∃ F2 S2 env2, Hold c F2 S2 env2 σ' H' ∧ iterW m body k env2 = some res ∧ PostS c W D F2 S2 env2 σ' H' res, fun σ' H' a => ⟨k, Nat.lt_succ_self k, a⟩, ?_⟩
      cases hb : body e3 with
      | none => rw [hb] at e3'; cases e3'
      | some rb =>
        rw [hb] at e3'
        refine ⟨F3, S3, e3, hh3, rb, hb, ?_⟩
        cases rb with
        | ex x e =>
          cases e3'
          exact PostS_go (T1 := noT) g3 k3 q2
        | ok o e4 =>
          intro F5 S5 T5 σ5 H5 g5 hh5 k5
          have g25 := g3.transS g5
          cases o with
          | nx => exact ⟨F5, S5, e4, hh5, e3', PostS_go g25 (k3.trans k5) q2⟩
          | cnt => exact ⟨F5, S5, e4, hh5, e3', PostS_go g25 (k3.trans k5) q2⟩
          | brk => cases e3'; exact q2 F5 S5 T5 σ5 H5 g25 hh5 (k3.trans k5)
          | ret x => cases e3'; exact q2 F5 S5 T5 σ5 H5 g25 hh5 (k3.trans k5)
end VS
namespace VS
open PySem L2
variable {c : Cn} {W : WX} {F F' F1 F2 H H' H1 H2 : Hp} {S S' S1 S2 : Nat → Set1} {T T' T1 T2 : Set1} {σ σ' σ1 : L2.St} {r : R} {v : V} {env env' env1 : VEnv} {Q : VK} {fa fb fc : EV} {X : Cx}
abbrev W0 : WX := fun _ _ _ _ => False
theorem rangeD_eq (lo hi : Int) : rangeD lo hi = (List.range (hi - lo).toNat).map fun (k : Nat) => D.int (lo + k) := rfl
theorem v_itRange1 {tg e : Expr} (hp : PI X tg e (iRng1 (tCons (tV c W fa) tNil))) : PI X tg e (tI c W (itRange1 fa)) :=
  PI_imp hp fun σ H K h => by
    show tV c W fa σ H fun x H1 => _
    refine exprI h fun r e1 F1 S1 T1 v H1 res hh1 t1 e q => ?_
    split at e
    · rename_i n
      split at e
      · rename_i hb
        cases e
        have ro := t1.at0
        cases ro with
        | val rp _ =>
          cases rp
          unfold bigI at hb
          simp only [decide_eq_true_eq] at hb
          refine ⟨n, rfl, hb.1, hb.2, ?_⟩
          refine q F1 S1 _ (fun _ => True) H1 (Go.rfl' fun i x h => .inl ⟨i, h⟩) hh1 Kp.rfl' ?_ trivial
          have w := wk_range (c := c) (lo := 0) (n := n.toNat)
          rw [rangeD_eq]
          have e0 : (n - 0).toNat = n.toNat := by rw [Int.sub_zero]
          rw [e0]
          exact w
      · cases e
    · cases e
theorem v_itRange2 {tg e : Expr} (hp : PI X tg e (iRng2 (tCons (tV c W fa) (tCons (tV c W fb) tNil)))) : PI X tg e (tI c W (itRange2 fa fb)) :=
  PI_imp hp fun σ H K h => by
    show tV c W fa σ H fun x H1 => tV c W fb σ H1 fun y H2 => _
    refine exprI h fun r e1 F1 S1 T1 v H1 res hh1 t1 e q => ?_
    rcases bind_some e with ⟨s, e2, h2, e⟩ | ⟨x, e2, h2, rfl⟩
    · refine ⟨F1, S1, e1, hh1, _, h2, fun F2 S2 T2 w H2 g2 hh2 k2 is2 => ?_⟩
      split at e
      · rename_i m n _
        split at e
        · rename_i hb
          cases e
          have ro := (t1.go g2 t1.offU).1.at0
          cases ro with
          | val rp _ =>
            cases rp
            cases is2 with
            | val rp _ =>
              cases rp
              unfold bigI at hb
              simp only [Bool.and_eq_true, decide_eq_true_eq] at hb
              refine ⟨m, n, rfl, ⟨hb.1.1, hb.1.2, hb.2.1, hb.2.2⟩, ?_⟩
              refine q F2 S2 _ (fun _ => True) H2 ?_ hh2 k2 ?_ trivial
              · exact (g2.sub fun x h => h.elim).wide fun x h => .inl h
              · rw [rangeD_eq]
                exact wk_range
        · cases e
      · cases e
    · exact ⟨F1, S1, e1, hh1, _, h2, q⟩
theorem hide_len : ∀ {is : List Nat}, (hide is env).length = env.length
  | [] => rfl
  | i :: is => by unfold hide; rw [List.length_set, hide_len]
theorem hide_in {is : List Nat} {j : Nat} (h : j ∈ is) : (hide is env).at j = none := by
  induction is with
  | nil => cases h
  | cons i is ih =>
    unfold hide VEnv.at
    by_cases e : j = i
    · subst e
      by_cases hl : j < (hide is env).length
      · rw [List.getElem?_set_self hl]
      · rw [List.getElem?_eq_none (by simp; omega)]
    · rw [List.getElem?_set_ne (Ne.symm e)]
      have : j ∈ is := by
        rcases List.mem_cons.mp h with h | h
        · exact absurd h e
        · exact h
      exact ih this
theorem hide_out {is : List Nat} {j : Nat} (h : j ∉ is) : (hide is env)[j]? = env[j]? := by
  induction is with
  | nil => rfl
  | cons i is ih =>
    unfold hide
    rw [List.getElem?_set_ne (by rintro rfl; exact h (by simp))]
    exact ih fun z => h (by simp [z])
theorem wipe_out {is : List Nat} {j : Nat} (h : j ∉ is) : (wipe σ is)[j]? = σ[j]? := by
  induction is with
  | nil => rfl
  | cons i is ih =>
    unfold wipe
    rw [List.getElem?_set_ne (by rintro rfl; exact h (by simp))]
    exact ih fun z => h (by simp [z])
theorem back_len {is : List Nat} {old : VEnv} : (back is old env).length = env.length := by
  induction is with
  | nil => rfl
  | cons i is ih =>
    unfold back
    split
    · rw [List.length_set, ih]
    · exact ih
theorem back_out {is : List Nat} {old : VEnv} {j : Nat} (h : j ∉ is) : (back is old env)[j]? = env[j]? := by
  induction is with
  | nil => rfl
  | cons i is ih =>
    unfold back
    have h1 : j ∉ is := fun z => h (by simp [z])
    split
    · rw [List.getElem?_set_ne (by rintro rfl; exact h (by simp))]
      exact ih h1
    · exact ih h1
theorem back_in {is : List Nat} {old : VEnv} {j : Nat} (h : j ∈ is) (hl : old.length = env.length) : (back is old env)[j]? = old[j]? := by
  induction is with
  | nil => cases h
  | cons i is ih =>
    unfold back
    by_cases e : j = i
    · subst e
      cases ho : old[j]? with
      | some q =>
        simp only
        have hj := (List.getElem?_eq_some_iff.mp ho).1
        rw [List.getElem?_set_self (by rw [back_len]; omega)]
      | none =>
        simp only
        have hj := List.getElem?_eq_none_iff.mp ho
        rw [List.getElem?_eq_none (by rw [back_len]; omega)]
    · have h1 : j ∈ is := by
        rcases List.mem_cons.mp h with h | h
        · exact absurd h e
        · exact h
      split
      · rw [List.getElem?_set_ne (Ne.symm e)]
        exact ih h1
      · exact ih h1
def hideS (is : List Nat) (S : Nat → Set1) : Nat → Set1 := fun j => if j ∈ is then noT else S j
theorem Hold.hide {is : List Nat} (hh : Hold c F S env σ H) (ls : σ'.length = σ.length) (hs : ∀ j, j ∉ is → σ'[j]? = σ[j]?) : Hold c F (hideS is S) (hide is env) σ' H := by
  have q : ∀ j x, hideS is S j x → j ∉ is ∧ S j x := fun j x h => by
    unfold hideS at h
    split at h
    · exact h.elim
    · rename_i hn; exact ⟨hn, h⟩
  refine ⟨hh.ex, by rw [hide_len, ls, hh.len], fun j o ho => ?_, fun i j x hi hj => hh.dis i j x (q i x hi).2 (q j x hj).2, fun j x h => hh.off j x (q j x h).2, fun j x h => ?_⟩
  · by_cases hj : j ∈ is
    · rw [hide_in hj] at ho; cases ho
    · rw [at_of_get (hide_out hj)] at ho
      obtain ⟨v, hv, ro⟩ := hh.cell j o ho
      refine ⟨v, by rw [hs j hj]; exact hv, ?_⟩
      unfold hideS
      rw [if_neg hj]
      exact ro
  · obtain ⟨hj, hx⟩ := q j x h
    rw [at_of_get (hide_out hj)]
    exact hh.dead j x hx
theorem wipe_hide {is : List Nat} : ∀ {σ2 : L2.St}, Kept is σ1 σ2 → wipe σ2 is = wipe σ1 is := fun {σ2} k => by
  apply List.ext_getElem?
  intro j
  by_cases hj : j ∈ is
  · have q : ∀ (σ : L2.St) (is : List Nat), j ∈ is → (wipe σ is)[j]? = if j < σ.length then some none else none := by
      intro σ is
      induction is with
      | nil => intro h; cases h
      | cons i is ih =>
        intro h
        unfold wipe
        by_cases e : j = i
        · subst e
          by_cases hl : j < σ.length
          · rw [List.getElem?_set_self (by rw [wipe_length]; exact hl), if_pos hl]
          · rw [List.getElem?_eq_none (by rw [List.length_set, wipe_length]; omega), if_neg hl]
        · rw [List.getElem?_set_ne (Ne.symm e)]
          rcases List.mem_cons.mp h with h | h
          · exact absurd h e
          · exact ih h
    rw [q σ2 is hj, q σ1 is hj, k.len]
  · rw [wipe_out hj, wipe_out hj, k.ne j hj]
structure Acc (c : Cn) (F : Hp) (S : Nat → Set1) (H : Hp) (D : Addr) (acc : List O) (vs : List V) (Ts : Nat → Set1) : Prop where
  at_ : H D = some (.lst vs)
  t : Temps c F S [] H (acc.map R.o) vs Ts
  dS : ∀ i, ¬ S i D
  dF : F D = none
  dT : ∀ k, ¬ Ts k D
theorem Temps.any {rs : List R} {vs : List V} {Ts : Nat → Set1} {os : List O} (e : rs = os.map R.o) (t : Temps c F S σ H rs vs Ts) : Temps c F S σ' H rs vs Ts := by
  subst e
  refine ⟨t.len, fun k r v hr hv => ?_, t.dis, t.offS, t.offF, t.bd⟩
  have := t.is k r v hr hv
  rw [List.getElem?_map] at hr
  obtain ⟨o, _, rfl⟩ := Option.map_eq_some_iff.mp hr
  exact this
theorem Acc.go {D : Addr} {acc : List O} {vs : List V} {Ts : Nat → Set1} (a : Acc c F S H D acc vs Ts) (g : Go F (un S) H F1 S1 T H1) : Acc c F1 S1 H1 D acc vs Ts ∧ (∀ k x, Ts k x → ¬ T x) ∧ ¬ T D := by
  have hU : ¬ un S D := fun ⟨i, h⟩ => a.dS i h
  obtain ⟨t', d'⟩ := a.t.go g a.t.offU
  refine ⟨⟨g.fr D _ a.at_ hU, t', fun i h => ?_, none_of_ne fun h => ?_, a.dT⟩, d', fun h => ?_⟩
  · rcases g.nS i D h with h | h
    · exact hU h
    · rw [a.at_] at h; cases h
  · rcases g.nF D h with h | h | h | ⟨xs, h⟩
    · exact h a.dF
    · exact hU h
    · rw [a.at_] at h; cases h
    · rw [a.at_] at h; cases h
  · rcases g.nT D h with h | h
    · exact hU h
    · rw [a.at_] at h; cases h
end VS
namespace VS
open PySem L2
variable {c : Cn} {W : WX} {F F' F1 F2 H H' H1 H2 : Hp} {S S' S1 S2 : Nat → Set1} {T T' T1 T2 : Set1} {σ σ' σ1 : L2.St} {r : R} {v : V} {env env' env1 : VEnv} {Q : VK} {fa fb fc : EV} {X : Cx}
def Kpar (a b : VEnv) : Prop := ∀ (j : Nat) (o' : O), b[j]? = some (Cell.par o') → ∃ o : O, a[j]? = some (Cell.par o)
theorem Kp.par (k : Kp env σ env' σ') : Kpar env env' := fun j o' h => (k j o' h).1
theorem Kpar.trans {a b d : VEnv} (h : Kpar a b) (h' : Kpar b d) : Kpar a d := fun j o' z => by
  obtain ⟨o, ho⟩ := h' j o' z
  exact h j o ho
theorem Kpar_hide {is : List Nat} {a b : VEnv} (h : Kpar a b) : Kpar a (hide is b) := fun j o' z => by
  by_cases hj : j ∈ is
  · have := hide_in (env := b) hj
    rw [at_par z] at this
    cases this
  · rw [hide_out hj] at z
    exact h j o' z
theorem Acc.ro {D : Addr} {acc : List O} {vs : List V} {Ts : Nat → Set1} (a : Acc c F S H D acc vs Ts) : RO c F H (.ref D) (.lst acc) (fun x => x = D ∨ un Ts x) :=
  .lst Ts a.at_ (by have := a.t.len; simpa using this) (fun k v o hv ho => a.t.is k (.o o) v (by simp [ho]) hv) a.t.dis (fun k x hx => ⟨fun e => by subst e; exact a.dT k hx, by have := a.t.bd k x hx; simpa using this⟩) fun x => Iff.rfl
theorem hideS_sub {is : List Nat} {j : Nat} {x : Addr} (h : hideS is S j x) : S j x := by
  unfold hideS at h
  split at h
  · exact h.elim
  · exact h
theorem comp_end {is : List Nat} {D : Addr} {acc : List O} {vs : List V} {Ts : Nat → Set1} {e1 env2 : VEnv} (hh1 : Hold c F1 S1 e1 σ H1) (hD : H1 D = none) (hh2 : Hold c F2 S2 env2 (wipe σ is) H2) (a : Acc c F2 S2 H2 D acc vs Ts)
    (gA : Go F1 (fun x => un (hideS is S1) x ∨ x = D) (upd H1 D (.lst [])) F2 S2 (fun x => x = D ∨ un Ts x) H2) (kp : Kpar (hide is e1) env2) (le : env2.length = e1.length) :
    ∃ S3, Go F1 (un S1) H1 F2 S3 (fun x => x = D ∨ un Ts x) H2 ∧ Hold c F2 S3 (back is e1 env2) σ H2 ∧ Kp e1 σ (back is e1 env2) σ := by
  have nD : ∀ x u, H1 x = some u → x ≠ D := fun x u h e => by subst e; rw [hD] at h; cases h
  have up : ∀ x u, H1 x = some u → upd H1 D (.lst []) x = some u := fun x u h => by rw [upd_ne (nD x u h)]; exact h
  have hid : ∀ j x, j ∈ is → S1 j x → ¬ (un (hideS is S1) x ∨ x = D) := fun j x hj hx h => by
    rcases h with ⟨k, hk⟩ | h
    · unfold hideS at hk
      split at hk
      · exact hk
      · rename_i hn
        have := hh1.dis j k x hx hk
        subst this
        exact hn hj
    · obtain ⟨u, hu, _⟩ := hh1.own hx
      exact nD x u hu h
  have live : ∀ j x, S1 j x → ∃ u, upd H1 D (.lst []) x = some u ∧ Mu u := fun j x hx => by
    obtain ⟨u, hu, mu⟩ := hh1.own hx
    exact ⟨u, up x u hu, mu⟩
  have keep : ∀ j x u, j ∈ is → S1 j x → H1 x = some u → H2 x = some u := fun j x u hj hx hu => gA.fr x u (up x u hu) (hid j x hj hx)
  refine ⟨fun j => if j ∈ is then S1 j else S2 j, ?_, ⟨hh2.ex, ?_, fun j o ho => ?_, fun i j x hi hj => ?_, fun j x hj => ?_, fun j x hj => ?_⟩, fun j o' hj => ?_⟩
  · refine ⟨gA.exF, fun x u hu hn => gA.fr x u (up x u hu) fun h => ?_, fun j x hx => ?_, fun x hx => ?_, fun x hx => ?_, fun j x hx hs => ?_, gA.oT⟩
    · rcases h with ⟨k, hk⟩ | h
      · exact hn ⟨k, hideS_sub hk⟩
      · exact nD x u hu h
    · have aux : (un (hideS is S1) x ∨ x = D) ∨ upd H1 D (.lst []) x = none → un S1 x ∨ H1 x = none := fun h => by
        rcases h with (⟨k, hk⟩ | rfl) | h
        · exact .inl ⟨k, hideS_sub hk⟩
        · exact .inr hD
        · by_cases e : x = D
          · subst e; exact .inr hD
          · rw [upd_ne e] at h; exact .inr h
      split at hx
      · exact .inl ⟨j, hx⟩
      · exact aux (gA.nS j x hx)
    · rcases gA.nT x hx with (⟨k, hk⟩ | rfl) | h
      · exact .inl ⟨k, hideS_sub hk⟩
      · exact .inr hD
      · by_cases e : x = D
        · subst e; exact .inr hD
        · rw [upd_ne e] at h; exact .inr h
    · rcases gA.nF x hx with h | (⟨k, hk⟩ | rfl) | h | ⟨xs, h⟩
      · exact .inl h
      · exact .inr (.inl ⟨k, hideS_sub hk⟩)
      · exact .inr (.inr (.inl hD))
      · by_cases e : x = D
        · subst e; exact .inr (.inr (.inl hD))
        · rw [upd_ne e] at h; exact .inr (.inr (.inl h))
      · by_cases e : x = D
        · subst e; rw [upd_same] at h; cases h
        · rw [upd_ne e] at h; exact .inr (.inr (.inr ⟨xs, h⟩))
    · split at hs
      · rename_i hj
        rcases gA.nT x hx with h | h
        · exact hid j x hj hs h
        · obtain ⟨u, hu, _⟩ := live j x hs
          rw [h] at hu; cases hu
      · exact gA.dT j x hx hs
  · rw [back_len, hh2.len, wipe_length]
  · by_cases hj : j ∈ is
    · rw [if_pos hj]
      rw [at_of_get (back_in hj le.symm)] at ho
      obtain ⟨v, hv, ro⟩ := hh1.cell j o ho
      exact ⟨v, hv, ro.up gA.exF fun x u hx hu => keep j x u hj hx hu⟩
    · rw [if_neg hj]
      rw [at_of_get (back_out hj)] at ho
      obtain ⟨v, hv, ro⟩ := hh2.cell j o ho
      rw [wipe_out hj] at hv
      exact ⟨v, hv, ro⟩
  · have mix : ∀ i j x, i ∈ is → S1 i x → ¬ S2 j x := fun i j x hi hx hs => by
      rcases gA.nS j x hs with h | h
      · exact hid i x hi hx h
      · obtain ⟨u, hu, _⟩ := live i x hx
        rw [h] at hu; cases hu
    split at hi
    · split at hj
      · exact hh1.dis i j x hi hj
      · rename_i h1 h2; exact absurd hj (mix i j x h1 hi)
    · split at hj
      · rename_i h1 h2; exact absurd hi (mix j i x h2 hj)
      · exact hh2.dis i j x hi hj
  · split at hj
    · rename_i hi
      refine none_of_ne fun hn => ?_
      obtain ⟨u, hu, mu⟩ := live j x hj
      rcases gA.nF x hn with h | h | h | ⟨xs, h⟩
      · exact h (hh1.off j x hj)
      · exact hid j x hi hj h
      · rw [h] at hu; cases hu
      · rw [h] at hu; cases hu; exact mu
    · exact hh2.off j x hj
  · split at hj
    · rename_i hi
      rw [at_of_get (back_in hi le.symm)]
      exact hh1.dead j x hj
    · rename_i hi
      rw [at_of_get (back_out hi)]
      exact hh2.dead j x hj
  · by_cases hi : j ∈ is
    · rw [back_in hi le.symm] at hj
      exact ⟨⟨o', hj⟩, rfl⟩
    · rw [back_out hi] at hj
      obtain ⟨o, ho⟩ := kp j o' hj
      rw [hide_out hi] at ho
      exact ⟨⟨o, ho⟩, rfl⟩
theorem comp_skip {is : List Nat} {D : Addr} {acc : List O} {vs : List V} {Ts : Nat → Set1} {env5 : VEnv} {U : Set1} {H0 F0 H5 F5 : Hp} {S5 : Nat → Set1} {σ4 : L2.St} (a : Acc c F2 S2 H2 D acc vs Ts) (gA : Go F0 U H0 F2 S2 (fun x => x = D ∨ un Ts x) H2)
    (g : Go F2 (un S2) H2 F5 S5 T H5) (hh5 : Hold c F5 S5 env5 σ4 H5) (kept : Kept is σ σ4) :
    Hold c F5 (hideS is S5) (hide is env5) (wipe σ is) H5 ∧ Acc c F5 (hideS is S5) H5 D acc vs Ts ∧ Go F0 U H0 F5 (hideS is S5) (fun x => x = D ∨ un Ts x) H5 := by
  obtain ⟨a5, dTs, dD⟩ := a.go g
  have hid : Hold c F5 (hideS is S5) (hide is env5) (wipe σ is) H5 := hh5.hide (by rw [wipe_length, kept.len]) fun j hj => by rw [wipe_out hj, kept.ne j hj]
  refine ⟨hid, ⟨a5.at_, ⟨a5.t.len, a5.t.is, a5.t.dis, fun k i x hx hs => a5.t.offS k i x hx (hideS_sub hs), a5.t.offF, a5.t.bd⟩, fun i h => a5.dS i (hideS_sub h), a5.dF, a5.dT⟩, ?_⟩
  have gB := gA.add (T' := fun x => x = D ∨ un Ts x) g (fun x h => .inl h) (fun x h => .inl h) (fun x h => ?_) (fun i x h => ?_)
  · exact ⟨gB.exF, gB.fr, fun i x h => gB.nS i x (hideS_sub h), gB.nT, gB.nF, fun i x h hs => gB.dT i x h (hideS_sub hs), gB.oT⟩
  · rcases h with rfl | ⟨k, h⟩
    · exact a5.dF
    · exact a5.t.offF k x h
  · rcases h with rfl | ⟨k, h⟩
    · exact a5.dS i
    · exact a5.t.offS k i x h
theorem comp_keep {is : List Nat} {D : Addr} {acc : List O} {vs : List V} {Ts : Nat → Set1} {env5 : VEnv} {U : Set1} {H0 F0 H5 F5 : Hp} {S5 : Nat → Set1} {σ4 : L2.St} {x : O} {y : V} (a : Acc c F2 S2 H2 D acc vs Ts) (gA : Go F0 U H0 F2 S2 (fun x => x = D ∨ un Ts x) H2)
    (hU : U D) (g : Go F2 (un S2) H2 F5 S5 T H5) (hh5 : Hold c F5 S5 env5 σ4 H5) (kept : Kept is σ σ4) (ro : RO c F5 H5 y x T) :
    H5 D = some (.lst vs) ∧ ∃ Ts', Hold c F5 (hideS is S5) (hide is env5) (wipe σ is) (upd H5 D (.lst (vs ++ [y]))) ∧ Acc c F5 (hideS is S5) (upd H5 D (.lst (vs ++ [y]))) D (acc ++ [x]) (vs ++ [y]) Ts' ∧ Go F0 U H0 F5 (hideS is S5) (fun x => x = D ∨ un Ts' x) (upd H5 D (.lst (vs ++ [y]))) := by
  obtain ⟨a5, dTs, dD⟩ := a.go g
  have sm : ∀ x u, x ≠ D → H5 x = some u → upd H5 D (.lst (vs ++ [y])) x = some u := fun x u hx h => by rw [upd_ne hx]; exact h
  have hid : Hold c F5 (hideS is S5) (hide is env5) (wipe σ is) H5 := hh5.hide (by rw [wipe_length, kept.len]) fun j hj => by rw [wipe_out hj, kept.ne j hj]
  have sF : Same F5 (upd H5 D (.lst (vs ++ [y]))) := fun b u h => sm b u (fun e => by subst e; rw [a5.dF] at h; cases h) (hh5.ex b u h)
  have hid2 : Hold c F5 (hideS is S5) (hide is env5) (wipe σ is) (upd H5 D (.lst (vs ++ [y]))) := hid.heap Same.rfl' sF (fun j b u hs h => sm b u (fun e => by subst e; exact a5.dS j (hideS_sub hs)) h) hid.off
  have t1 : Temps c F5 S5 [] H5 [.o x] [y] (fun k x => k = 0 ∧ T x) := Temps.one ro g.dT g.oT
  have tt := a5.t.cat t1 fun i j x hi hj => dTs i x hi hj.2
  refine ⟨a5.at_, catT (acc.map R.o).length Ts (fun k x => k = 0 ∧ T x), hid2, ?_, ?_⟩
  · have nD : ∀ k, ¬ catT (acc.map R.o).length Ts (fun k x => k = 0 ∧ T x) k D := fun k h => by
      unfold catT at h
      split at h
      · exact a5.dT k h
      · exact dD h.2
    refine ⟨upd_same, ⟨?_, fun k r v hr hv => ?_, tt.dis, fun k i x hx hs => tt.offS k i x hx (hideS_sub hs), tt.offF, fun k x hx => ?_⟩, fun i h => a5.dS i (hideS_sub h), a5.dF, nD⟩
    · rw [List.map_append]; exact tt.len
    · rw [List.map_append] at hr
      exact (tt.is k r v hr hv).up Same.rfl' fun b u hb hu => sm b u (fun e => by subst e; exact nD k hb) hu
    · rw [List.map_append]; exact tt.bd k x hx
  · have gB := gA.add (T' := fun z => (z = D ∨ un Ts z) ∨ T z) g (fun x h => .inl h) (fun x h => h) (fun x h => ?_) (fun i x h => ?_)
    · have inT : ∀ z, (z = D ∨ un (catT (acc.map R.o).length Ts (fun k x => k = 0 ∧ T x)) z) → (z = D ∨ un Ts z) ∨ T z := fun z h => by
        rcases h with h | ⟨k, h⟩
        · exact .inl (.inl h)
        · unfold catT at h
          split at h
          · exact .inl (.inr ⟨k, h⟩)
          · exact .inr h.2
      refine ⟨gB.exF, fun b u hu hn => sm b u (fun e => by subst e; exact hn hU) (gB.fr b u hu hn), fun i x h => gB.nS i x (hideS_sub h), fun x h => gB.nT x (inT x h), gB.nF, fun i x h hs => gB.dT i x (inT x h) (hideS_sub hs), fun x h => gB.oT x (inT x h)⟩
    · rcases h with rfl | ⟨k, h⟩
      · exact a5.dF
      · exact a5.t.offF k x h
    · rcases h with rfl | ⟨k, h⟩
      · exact a5.dS i
      · exact a5.t.offS k i x h
theorem len_of (a : Hold c F S env σ H) (b : Hold c F1 S1 env1 σ H1) : env1.length = env.length := by rw [b.len, a.len]
def PostV (c : Cn) (W : WX) (F : Hp) (S : Nat → Set1) (env : VEnv) (σ : L2.St) (H : Hp) (Q : VK) : Res R → Prop
  | .ok r env' => ∀ F' S' T v H', Go F (un S) H F' S' T H' → Hold c F' S' env' σ H' → Kp env σ env' σ → IsR c F' H' σ r v T → Q v H'
  | .ex e env' => EndX c W F S env σ H e env'
def PostI (c : Cn) (W : WX) (F : Hp) (S : Nat → Set1) (env : VEnv) (σ : L2.St) (H : Hp) (K : It → Hp → Prop) : Res (List D) → Prop
  | .ok ds env' => ∀ F' S' J P H', Go F (un S) H F' S' noT H' → Hold c F' S' env' σ H' → Kp env σ env' σ → Wk c J ds P → P F' → K J H'
  | .ex e env' => EndX c W F S env σ H e env'
theorem c_comp_g {wi : TI} {is : List Nat} {it : M (List D)} {t : Tg} {m : M Bool} {e : EV} {g : TG} (ht : TgOk c t g) (hsl : ∀ j ∈ t.slots, j ∈ is) (hh : Hold c F S env σ H) {res : Res R} (e0 : eComp is it t m e env = some res)
    (q : PostV c W F S env σ H Q res) (hI : ∀ K : It → Hp → Prop, (∃ res, it env = some res ∧ PostI c W F S env σ H K res) → wi σ H K) : tLc wi g (tVT c W0 m) (tV c W0 e) is σ H Q := by
  rcases (bind_some e0).symm with ⟨x, e1, h1, rfl⟩ | ⟨ds, e1, h1, e0⟩
  · exact hI _ ⟨_, h1, q⟩
  refine hI _ ⟨_, h1, fun F1 S1 J P H1 g1 hh1 k1 w p D hD => ?_⟩
  cases hc : compL is t m e ds [] (hide is e1) with
  | none => rw [hc] at e0; cases e0
  | some rc =>
    rw [hc] at e0
    cases rc with
    | ex x e2 => cases e0
    | ok os e2 =>
      cases e0
      have smD : ∀ x u, H1 x = some u → upd H1 D (.lst []) x = some u := fun x u h => by rw [upd_ne (ne_of_none h hD)]; exact h
      have FD : F1 D = none := none_of_ne fun h => by
        cases hf : F1 D with
        | none => exact h hf
        | some u => have := hh1.ex D u hf; rw [hD] at this; cases this
      have SD : ∀ j, ¬ S1 j D := fun j h => by
        obtain ⟨u, hu, _⟩ := hh1.own h
        rw [hD] at hu; cases hu
      have hh1h : Hold c F1 (hideS is S1) (hide is e1) (wipe σ is) H1 := hh1.hide (wipe_length σ is) fun j hj => wipe_out hj
      have hh10 : Hold c F1 (hideS is S1) (hide is e1) (wipe σ is) (upd H1 D (.lst [])) := hh1h.heap Same.rfl' (fun b u h => smD b u (hh1.ex b u h)) (fun j b u _ h => smD b u h) hh1h.off
      have acc0 : Acc c F1 (hideS is S1) (upd H1 D (.lst [])) D [] [] (fun _ => noT) := ⟨upd_same, Temps.nil, fun i h => SD i (hideS_sub h), FD, fun k h => h⟩
      have gA0 : Go F1 (fun x => un (hideS is S1) x ∨ x = D) (upd H1 D (.lst [])) F1 (hideS is S1) (fun x => x = D ∨ un (fun _ => noT) x) (upd H1 D (.lst [])) :=
        ⟨Same.rfl', fun _ _ h _ => h, fun i x h => .inl (.inl ⟨i, h⟩), fun x h => h.elim (fun h => .inl (.inr h)) fun ⟨k, h⟩ => h.elim, fun x h => .inl h, fun i x h hs => by
          rcases h with rfl | ⟨k, h⟩
          · exact SD i (hideS_sub hs)
          · exact h, fun x h => by
          rcases h with rfl | ⟨k, h⟩
          · exact FD
          · exact h.elim⟩
      refine ⟨fun i k H2 => i ≤ ds.length ∧ k = ds.length - i ∧ ∃ F2 S2 env2 acc vs Ts, Hold c F2 S2 env2 (wipe σ is) H2 ∧ P F2 ∧ Acc c F2 S2 H2 D acc vs Ts ∧ Go F1 (fun x => un (hideS is S1) x ∨ x = D) (upd H1 D (.lst [])) F2 S2 (fun x => x = D ∨ un Ts x) H2 ∧
        Kpar (hide is e1) env2 ∧ compL is t m e (ds.drop i) acc env2 = some (.ok os e2),
        ⟨ds.length, Nat.zero_le _, by simp, F1, _, _, [], [], _, hh10, p, acc0, gA0, fun j o h => ⟨o, h⟩, by simpa using hc⟩, ?_⟩
      rintro i k H2 ⟨hi, rfl, F2, S2, env2, acc, vs, Ts, hh2, p2, a2, gA, kp2, ec⟩
      by_cases hlt : i < ds.length
      · have ed : ds.drop i = ds[i] :: ds.drop (i + 1) := List.drop_eq_getElem_cons hlt
        have hdi : ds[i]? = some ds[i] := List.getElem?_eq_getElem hlt
        rw [ed] at ec
        refine .inr ⟨w.go i F2 H2 p2 hh2.ex hlt, fun H' => i + 1 ≤ ds.length ∧ ∃ F2 S2 env2 acc vs Ts, Hold c F2 S2 env2 (wipe σ is) H' ∧ P F2 ∧ Acc c F2 S2 H' D acc vs Ts ∧ Go F1 (fun x => un (hideS is S1) x ∨ x = D) (upd H1 D (.lst [])) F2 S2 (fun x => x = D ∨ un Ts x) H' ∧
          Kpar (hide is e1) env2 ∧ compL is t m e (ds.drop (i + 1)) acc env2 = some (.ok os e2), fun H' ⟨b1, b2⟩ => ⟨_, by omega, b1, rfl, b2⟩, fun x H3 y => ?_⟩
        obtain ⟨F3, hh3, g3, rp⟩ := hh2.yl (w.yld i F2 H2 x H3 _ p2 hh2.ex y hdi)
        unfold compL at ec
        cases hs : t.set (.val ds[i]) env2 with
        | none => rw [hs] at ec; cases ec
        | some e3 =>
          rw [hs] at ec
          simp only at ec
          refine ht F3 S2 env2 _ H3 x (.val ds[i]) noT e3 _ hh3 (.val rp fun x h => h) (fun i a h => h.elim) (fun a h => h.elim) hs fun S4 σ4 g4 hh4 k4 kept4 => ?_
          have kept : Kept is σ σ4 := ⟨by rw [kept4.len, wipe_length], fun j hj => by rw [kept4.ne j fun z => hj (hsl j z), wipe_out hj]⟩
          refine ⟨wipe_hide kept, ?_⟩
          have g24 : Go F2 (un S2) H2 F3 S4 noT H3 := g3.trans g4 fun x h => h
          refine testBind hh4 ec (fun x e1 z => by cases z) fun b e4 F5 S5 H5 g5 hh5 k5 ec => ?_
          have g25 := g24.transS g5
          cases b with
          | false =>
            rw [if_neg Bool.false_ne_true] at ec ⊢
            obtain ⟨z1, z2, z3⟩ := comp_skip a2 gA g25 hh5 kept
            exact ⟨hlt, F5, _, _, acc, vs, Ts, z1, w.up _ _ p2 g25.exF, z2, z3, Kpar_hide (kp2.trans (k4.par.trans k5.par)), ec⟩
          | true =>
            rw [if_pos rfl] at ec ⊢
            rcases (bind_some ec).symm with ⟨x1, e6, hx, z⟩ | ⟨x1, e6, hx, ec⟩
            · cases z
            rcases (bind_some hx).symm with ⟨x2, e5, hr1, z⟩ | ⟨r1, e5, hr1, hx⟩
            · cases z
            refine ⟨F5, S5, e4, hh5, _, hr1, fun F6 S6 T6 v6 H6 g6 hh6 k6 is6 => ?_⟩
            unfold M.lift at hx
            obtain ⟨⟨o7, e7⟩, hs7, hx⟩ := Option.map_eq_some_iff.mp hx
            have hs7 : r1.settle e5 = some (o7, e7) := hs7
            cases hx
            split at ec
            · rename_i hz
              have t6 : Temps c F6 S6 σ4 H6 [r1] [v6] _ := Temps.one is6 g6.dT g6.oT
              obtain ⟨F7, S7, hh7, t7, g7, k7⟩ := settles_ok (os := [o7]) hh6 t6 (by unfold settles; rw [hs7]; rfl)
              have g27 : Go F2 (un S2) H2 F7 S7 (fun x => (0 : Nat) = 0 ∧ T6 x) H6 := (g25.transS g6).add (T' := fun x => (0 : Nat) = 0 ∧ T6 x) g7 (fun x h => .inl h) (fun x h => .inl h.2) (fun x h => t7.offF 0 x ⟨rfl, h⟩) fun i x h => t7.offS 0 i x ⟨rfl, h⟩
              obtain ⟨y1, Ts', y2, y3, y4⟩ := comp_keep a2 gA (.inr rfl) g27 hh7 kept (t7.is 0 (.o o7) v6 rfl rfl)
              refine ⟨vs, y1, ?_, hlt, F7, _, _, _, _, Ts', y2, w.up _ _ p2 g27.exF, y3, y4, Kpar_hide (kp2.trans (k4.par.trans (k5.par.trans (k6.par.trans k7.par)))), ec⟩
              have := a2.t.len
              rw [List.length_map] at this
              rw [this]
              exact maxLen_lt (Nat.le_of_lt hz)
            · cases ec
      · have e9 : i = ds.length := by omega
        subst e9
        rw [List.drop_length] at ec
        cases ec
        obtain ⟨S9, g9, hh9, k9⟩ := comp_end hh1 hD hh2 a2 gA kp2 (by rw [hh2.len, hh1.len, wipe_length])
        exact .inl ⟨w.stop F2 H2 p2 hh2.ex, q F2 S9 _ _ H2 (g1.transS g9) hh9 (k1.trans k9) a2.ro⟩
theorem c_comp {is : List Nat} {it : M (List D)} {t : Tg} {m : M Bool} {e : EV} {g : TG} (ht : TgOk c t g) (hsl : ∀ j ∈ t.slots, j ∈ is) (h : tV c W (eComp is it t m e) σ H Q) : tLc (tI c W it) g (tVT c W0 m) (tV c W0 e) is σ H Q := by
  obtain ⟨F, S, env, hh, res, e0, q⟩ := h
  refine c_comp_g (W := W) ht hsl hh e0 (by cases res <;> exact q) fun K h => ?_
  obtain ⟨r, h1, h2⟩ := h
  exact ⟨F, S, env, hh, r, h1, by cases r <;> exact h2⟩
end VS
namespace VS
open PySem L2
variable {c : Cn} {W : WX} {F F' F1 F2 H H' H1 H2 : Hp} {S S' S1 S2 : Nat → Set1} {T T' T1 T2 : Set1} {σ σ' σ1 : L2.St} {r : R} {v : V} {env env' env1 : VEnv} {Q : VK} {fa fb fc : EV} {X : Cx}
structure LAt (c : Cn) (F : Hp) (S : Nat → Set1) (σ : L2.St) (H : Hp) (i : Nat) (os : List O) (a : Addr) (vs : List V) (Ts : Nat → Set1) : Prop where
  sl : σ[i]? = some (some (.ref a))
  ob : H a = some (.lst vs)
  len : vs.length = os.length
  ro : ∀ (k : Nat) v o, vs[k]? = some v → os[k]? = some o → RO c F H v o (Ts k)
  dis : ∀ i j x, Ts i x → Ts j x → i = j
  bd : ∀ k x, Ts k x → x ≠ a ∧ k < os.length
  all : ∀ x, S i x ↔ x = a ∨ ∃ k, Ts k x
theorem Hold.lat {i : Nat} {os : List O} (hh : Hold c F S env σ H) (h : env.at i = some (.lst os)) : ∃ a vs Ts, LAt c F S σ H i os a vs Ts := by
  obtain ⟨v, hv, ro⟩ := hh.cell i _ h
  cases ro with
  | lst Ts ob l hr dj bd hT => exact ⟨_, _, Ts, hv, ob, l, hr, dj, bd, hT⟩
theorem Hold.putl {i : Nat} {os os' : List O} {a : Addr} {vs vs' : List V} {Ts Ts' : Nat → Set1} (hh : Hold c F S env σ H) (h : env.at i = some (.lst os)) (l : LAt c F S σ H i os a vs Ts) (l' : vs'.length = os'.length)
    (hr : ∀ (k : Nat) v o, vs'[k]? = some v → os'[k]? = some o → RO c F H v o (Ts' k)) (dj : ∀ i j x, Ts' i x → Ts' j x → i = j) (bd : ∀ k x, Ts' k x → x ≠ a ∧ k < os'.length)
    (fr : ∀ k x, Ts' k x → S i x ∨ T x) (oS : ∀ j x, T x → ¬ S j x) (oF : ∀ x, T x → F x = none) :
    Hold c F (setS S i (fun x => x = a ∨ un Ts' x)) (env.put i (.lst os')) σ (upd H a (.lst vs')) ∧ Go F (fun x => un S x ∨ T x) H F (setS S i (fun x => x = a ∨ un Ts' x)) noT (upd H a (.lst vs')) ∧ Kp env σ (env.put i (.lst os')) σ := by
  have il := at_lt h
  have Sa : S i a := (l.all a).mpr (.inl rfl)
  have sm : ∀ x u, x ≠ a → H x = some u → upd H a (.lst vs') x = some u := fun x u hx e => by rw [upd_ne hx]; exact e
  have inS : ∀ x, (x = a ∨ un Ts' x) → S i x ∨ T x := fun x hx => by
    rcases hx with rfl | ⟨k, hk⟩
    · exact .inl Sa
    · exact fr k x hk
  refine ⟨?_, ⟨Same.rfl', fun x u hu hn => sm x u (fun e => by subst e; exact hn (.inl ⟨i, Sa⟩)) hu, fun j x hx => ?_, fun x h => h.elim, fun x h => .inl h, fun j x h => h.elim, fun x h => h.elim⟩, Kp_put⟩
  · refine hh.one Same.rfl' (fun b u e => sm b u (fun z => by subst z; rw [hh.off i b Sa] at e; cases e) (hh.ex b u e)) (fun j x u hj hs hu => sm x u (fun z => by subst z; exact hj (hh.dis j i x hs Sa)) hu) (fun j x _ hs => hh.off j x hs) put_len rfl (fun j hj => put_ne hj) (fun _ _ => rfl) (fun o' ho' => ?_) (fun x _ => ⟨_, put_at il⟩) (fun j x hj hx hs => ?_) (fun x hx => ?_)
    · rw [put_at il] at ho'
      cases ho'
      refine ⟨_, l.sl, .lst Ts' upd_same l' (fun k v o hv ho => (hr k v o hv ho).up Same.rfl' fun x u hx hu => sm x u (bd k x hx).1 hu) dj bd fun x => Iff.rfl⟩
    · rcases inS x hx with h | h
      · exact hj (hh.dis j i x hs h)
      · exact oS j x h hs
    · rcases inS x hx with h | h
      · exact hh.off i x h
      · exact oF x h
  · by_cases e : j = i
    · subst e
      rw [setS_at] at hx
      rcases inS x hx with h | h
      · exact .inl (.inl ⟨j, h⟩)
      · exact .inl (.inr h)
    · rw [setS_ne e] at hx
      exact .inl (.inl ⟨j, hx⟩)
theorem Hold.putlk {G : Prop} {i : Nat} {os os' : List O} {a : Addr} {vs vs' : List V} {Ts Ts' : Nat → Set1} (hh : Hold c F S env σ H) (h : env.at i = some (.lst os)) (l : LAt c F S σ H i os a vs Ts) (l' : vs'.length = os'.length)
    (hr : ∀ (k : Nat) v o, vs'[k]? = some v → os'[k]? = some o → RO c F H v o (Ts' k)) (dj : ∀ i j x, Ts' i x → Ts' j x → i = j) (bd : ∀ k x, Ts' k x → x ≠ a ∧ k < os'.length)
    (fr : ∀ k x, Ts' k x → S i x ∨ T x) (oS : ∀ j x, T x → ¬ S j x) (oF : ∀ x, T x → F x = none)
    (k : Hold c F (setS S i (fun x => x = a ∨ un Ts' x)) (env.put i (.lst os')) σ (upd H a (.lst vs')) → Go F (fun x => un S x ∨ T x) H F (setS S i (fun x => x = a ∨ un Ts' x)) noT (upd H a (.lst vs')) → Kp env σ (env.put i (.lst os')) σ → G) : G := by
  obtain ⟨h1, h2, h3⟩ := hh.putl h l l' hr dj bd fr oS oF
  exact k h1 h2 h3
def OpM (c : Cn) (i : Nat) (rr : V → List V → Hp → VK → Prop) (g : List R → VEnv → Option (R × VEnv)) : Prop :=
  ∀ F S env σ H rs vs Ts r' env' Q w, Hold c F S env σ H → Temps c F S σ H rs vs Ts → σ[i]? = some (some w) → g rs env = some (r', env') →
    (∀ F' S' T v H', Go F (fun x => un S x ∨ un Ts x) H F' S' T H' → Hold c F' S' env' σ H' → Kp env σ env' σ → IsR c F' H' σ r' v T → Q v H') → rr w vs H Q
theorem lm_args {i : Nat} {rr : V → List V → Hp → VK → Prop} {g : List R → VEnv → Option (R × VEnv)} {m : M (List R)} (ho : OpM c i rr g) (h : tV c W (eLm i m g) σ H Q) : ∃ v, σ[i]? = some (some v) ∧ tyV c.K "list" v H ∧ tVA c W m σ H (fun vs H1 => rr v vs H1 Q) := by
  obtain ⟨F, S, env, hh, res, e, q⟩ := h
  unfold eLm at e
  split at e
  · rename_i hb
    unfold isLst at hb
    split at hb
    · rename_i os ha
      obtain ⟨a, vs, Ts, l⟩ := hh.lat ha
      refine ⟨_, l.sl, .inl ⟨rfl, vs, .inl (.inl l.ob)⟩, ?_⟩
      unfold eOp at e
      cases hm : m env with
      | none => rw [hm] at e; cases e
      | some rr' =>
        rw [hm] at e
        cases rr' with
        | ex x e1 =>
          cases e
          exact ⟨F, S, env, hh, _, hm, q⟩
        | ok rs e1 =>
          simp only [Option.map_eq_some_iff] at e
          obtain ⟨⟨r', e2⟩, hg, rfl⟩ := e
          refine ⟨F, S, env, hh, _, hm, fun F1 S1 Ts vs H1 g1 h1 k1 t1 => ?_⟩
          exact ho F1 S1 e1 σ H1 rs vs Ts r' e2 Q _ h1 t1 l.sl hg fun F2 S2 T v H2 g2 h2 k2 is2 => q F2 S2 T v H2 (g1.trans g2 fun x h => h) h2 (k1.trans k2) is2
    · cases hb
  · cases e
theorem onList_some {i : Nat} {f : List O → Option (List O)} (h : onList i env f = some env') : ∃ os os', env.at i = some (.lst os) ∧ f os = some os' ∧ env' = env.put i (.lst os') := by
  unfold onList at h
  split at h
  · rename_i os ha
    obtain ⟨os', h1, h2⟩ := Option.map_eq_some_iff.mp h
    exact ⟨os, os', ha, h1, h2.symm⟩
  · cases h
theorem isnon : IsR c F H σ (.o (.val .non)) .non noT := RO.val .non fun x h => h
theorem Go.none {U : Set1} (g : Go F U H F1 S1 T H1) : Go F U H F1 S1 noT H1 := g.sub fun x h => h.elim
theorem om_append {i : Nat} : OpM c i rAppend (lmAppend i) := by
  intro F S env σ H rs vs Ts r' env' Q w hh t hw hg q
  unfold lmAppend at hg
  split at hg
  · rename_i en r1
    cases hs : r1.settle env with
    | none => rw [hs] at hg; cases hg
    | some p =>
      obtain ⟨x, e1⟩ := p
      rw [hs] at hg
      simp only at hg
      obtain ⟨e2, h2, e⟩ := Option.map_eq_some_iff.mp hg
      cases e
      obtain ⟨os, os', ha, hf, rfl⟩ := onList_some h2
      obtain ⟨F1, S1, hh1, t1, g1, k1⟩ := settles_ok (os := [x]) hh t (by unfold settles; rw [hs]; rfl)
      obtain ⟨v1, rfl, is1⟩ := one t1
      have is1 : RO c F1 H v1 x (Ts 0) := is1
      split at hf
      · rename_i hz
        cases hf
        obtain ⟨a, us, Us, l⟩ := hh1.lat ha
        rw [l.sl] at hw
        cases hw
        have al : us.length < sizeLine := by rw [l.len]; exact maxLen_lt (Nat.le_of_lt hz)
        have sep : ∀ k y, Us k y → ¬ Ts 0 y := fun k y h h' => t1.offS 0 i y h' ((l.all y).mpr (.inr ⟨k, h⟩))
        refine hh1.putlk (os' := os ++ [x]) (vs' := us ++ [v1]) (Ts' := catT os.length Us (fun k y => k = 0 ∧ Ts 0 y)) (T := Ts 0) ha l (by rw [List.length_append, List.length_append, l.len]; rfl) (fun k v o hv ho => ?_) (fun p p' y hp hp' => ?_) (fun k y hy => ?_) (fun k y hy => ?_) (fun j y h => t1.offS 0 j y h) (fun y h => t1.offF 0 y h) fun hh2 g2 k2 => ?_
        rotate_left 4
        · refine ⟨a, us, v1, rfl, rfl, l.ob, al, ?_⟩
          refine q F1 _ noT _ _ ?_ hh2 (k1.trans k2) isnon
          have g1' : Go F (fun x => un S x ∨ un Ts x) H F1 S1 (un Ts) H := ⟨g1.exF, fun x u hu hn => g1.fr x u hu fun z => hn (.inl z), fun i x h => (g1.nS i x h).imp .inl id, fun x h => .inl (.inr h), fun x h => (g1.nF x h).imp_right (·.imp_left .inl), fun i x ⟨k, h⟩ => t1.offS k i x h, fun x ⟨k, h⟩ => t1.offF k x h⟩
          exact g1'.trans g2 fun x h => h.imp_right fun h => ⟨0, h⟩
        · by_cases hk : k < os.length
          · rw [List.getElem?_append_left (by rw [l.len]; exact hk)] at hv
            rw [List.getElem?_append_left hk] at ho
            have : catT os.length Us (fun k y => k = 0 ∧ Ts 0 y) k = Us k := funext fun y => by unfold catT; rw [if_pos hk]
            rw [this]
            exact l.ro k v o hv ho
          · rw [List.getElem?_append_right (by rw [l.len]; omega), l.len] at hv
            rw [List.getElem?_append_right (by omega)] at ho
            have e0 : k - os.length = 0 := by
              have := (List.getElem?_eq_some_iff.mp ho).1
              simpa using this
            rw [e0] at hv ho
            cases hv
            cases ho
            have : catT os.length Us (fun k y => k = 0 ∧ Ts 0 y) k = Ts 0 := funext fun y => by
              unfold catT
              rw [if_neg hk, e0]
              exact propext ⟨fun h => h.2, fun h => ⟨rfl, h⟩⟩
            rw [this]
            exact is1
        · unfold catT at hp hp'
          split at hp
          · split at hp'
            · exact l.dis _ _ y hp hp'
            · exact absurd hp'.2 (sep _ y hp)
          · split at hp'
            · exact absurd hp.2 (sep _ y hp')
            · omega
        · unfold catT at hy
          rw [List.length_append]
          split at hy
          · exact ⟨(l.bd k y hy).1, by omega⟩
          · exact ⟨fun e => by subst e; exact t1.offS 0 i y hy.2 ((l.all y).mpr (.inl rfl)), by have := hy.1; simp only [List.length_cons, List.length_nil]; omega⟩
        · unfold catT at hy
          split at hy
          · exact .inl ((l.all y).mpr (.inr ⟨k, hy⟩))
          · exact .inr hy.2
      · cases hf
  · cases hg
theorem om_clear {i : Nat} : OpM c i rClear (lmClear i) := by
  intro F S env σ H rs vs Ts r' env' Q w hh t hw hg q
  unfold lmClear at hg
  split at hg
  · obtain ⟨e2, h2, e⟩ := Option.map_eq_some_iff.mp hg
    cases e
    obtain ⟨os, os', ha, hf, rfl⟩ := onList_some h2
    cases hf
    obtain ⟨a, us, Us, l⟩ := hh.lat ha
    rw [l.sl] at hw
    cases hw
    obtain ⟨hh2, g2, k2⟩ := hh.putl (os' := []) (vs' := []) (Ts' := fun _ => noT) (T := noT) ha l rfl (fun k v o hv => by simp at hv) (fun p p' y h => h.elim) (fun k y h => h.elim) (fun k y h => h.elim) (fun j y h => h.elim) (fun y h => h.elim)
    have : vs = [] := by have := t.len; exact List.length_eq_zero_iff.mp this
    subst this
    exact ⟨a, us, rfl, rfl, l.ob, q F _ noT _ _ (g2.wide fun x h => h.elim .inl fun h => h.elim) hh2 k2 isnon⟩
  · cases hg
theorem om_pop {i : Nat} : OpM c i rPop (lmPop i) := by
  intro F S env σ H rs vs Ts r' env' Q w hh t hw hg q
  unfold lmPop at hg
  split at hg
  · split at hg
    · rename_i os ha
      split at hg
      · rename_i d hd
        cases hg
        obtain ⟨a, us, Us, l⟩ := hh.lat ha
        rw [l.sl] at hw
        cases hw
        have hlt := (List.getElem?_eq_some_iff.mp hd).1
        obtain ⟨u, o, hu, ho⟩ := get_of_lt l.len hlt
        rw [hd] at ho
        cases ho
        have ro := l.ro _ u _ hu hd
        cases ro with
        | val rp hn =>
          have hdr : ∀ (k : Nat), k < os.length - 1 → us.dropLast[k]? = us[k]? ∧ os.dropLast[k]? = os[k]? := fun k hk => by
            have := l.len
            rw [List.dropLast_eq_take, List.dropLast_eq_take, List.getElem?_take_of_lt (by omega), List.getElem?_take_of_lt hk]
            exact ⟨rfl, rfl⟩
          refine hh.putlk (os' := os.dropLast) (vs' := us.dropLast) (Ts' := fun k => if k < os.length - 1 then Us k else noT) (T := noT) ha l (by rw [List.length_dropLast, List.length_dropLast, l.len]) (fun k v o hv ho => ?_) (fun p p' y h h' => ?_) (fun k y h => ?_) (fun k y h => ?_) (fun j y h => h.elim) (fun y h => h.elim) fun hh2 g2 k2 => ?_
          rotate_left 4
          · have : vs = [] := by have := t.len; exact List.length_eq_zero_iff.mp this
            subst this
            exact ⟨a, us, u, rfl, rfl, l.ob, by rw [l.len]; exact hu, q F _ noT _ _ (g2.wide fun x h => h.elim .inl fun h => h.elim) hh2 k2 (RO.val rp fun x h => h)⟩
          · have hk := (List.getElem?_eq_some_iff.mp ho).1
            rw [List.length_dropLast] at hk
            rw [if_pos hk]
            rw [(hdr k hk).1] at hv
            rw [(hdr k hk).2] at ho
            exact l.ro k v o hv ho
          · split at h
            · split at h'
              · exact l.dis _ _ y h h'
              · exact h'.elim
            · exact h.elim
          · split at h
            · rename_i hk
              exact ⟨(l.bd k y h).1, by rw [List.length_dropLast]; exact hk⟩
            · exact h.elim
          · split at h
            · exact .inl ((l.all y).mpr (.inr ⟨k, h⟩))
            · exact h.elim
      · cases hg
    · cases hg
  · cases hg
end VS
namespace VS
open PySem L2
variable {c : Cn} {W : WX} {F F' F1 F2 H H' H1 H2 : Hp} {S S' S1 S2 : Nat → Set1} {T T' T1 T2 : Set1} {σ σ' σ1 : L2.St} {r : R} {v : V} {env env' env1 : VEnv} {Q : VK} {fa fb fc : EV} {X : Cx}
theorem Hold.putIx {G : Prop} {i n : Nat} {os : List O} {x : O} {a : Addr} {vs : List V} {Us : Nat → Set1} (hh : Hold c F S env σ H) (ha : env.at i = some (.lst os)) (l : LAt c F S σ H i os a vs Us) (hn : n < os.length) (ro : RO c F H v x T) (dS : ∀ i y, T y → ¬ S i y) (oF : ∀ y, T y → F y = none)
    (k : ∀ S', Hold c F S' (env.put i (.lst (os.set n x))) σ (upd H a (.lst (vs.set n v))) → Go F (fun x => un S x ∨ T x) H F S' noT (upd H a (.lst (vs.set n v))) → Kp env σ (env.put i (.lst (os.set n x))) σ → G) : G := by
  refine hh.putlk (os' := os.set n x) (vs' := vs.set n v) (Ts' := fun k => if k = n then T else Us k) (T := T) ha l (by rw [List.length_set, List.length_set, l.len]) (fun k w o hv ho => ?_) (fun p p' y h h' => ?_) (fun k y h => ?_) (fun k y h => ?_) dS oF fun hh2 g2 k2 => k _ hh2 g2 k2
  · by_cases e : k = n
    · subst e
      rw [List.getElem?_set_self (by rw [l.len]; exact hn)] at hv
      rw [List.getElem?_set_self hn] at ho
      cases hv
      cases ho
      rw [if_pos rfl]
      exact ro
    · rw [List.getElem?_set_ne (Ne.symm e)] at hv ho
      rw [if_neg e]
      exact l.ro k w o hv ho
  · by_cases e : p = n <;> by_cases e' : p' = n
    · omega
    · rw [if_pos e] at h
      rw [if_neg e'] at h'
      exact absurd ((l.all y).mpr (.inr ⟨p', h'⟩)) (dS i y h)
    · rw [if_neg e] at h
      rw [if_pos e'] at h'
      exact absurd ((l.all y).mpr (.inr ⟨p, h⟩)) (dS i y h')
    · rw [if_neg e] at h
      rw [if_neg e'] at h'
      exact l.dis _ _ y h h'
  · rw [List.length_set]
    by_cases e : k = n
    · rw [if_pos e] at h
      exact ⟨fun z => by subst z; exact dS i y h ((l.all y).mpr (.inl rfl)), by omega⟩
    · rw [if_neg e] at h
      exact l.bd k y h
  · by_cases e : k = n
    · rw [if_pos e] at h; exact .inr h
    · rw [if_neg e] at h; exact .inl ((l.all y).mpr (.inr ⟨k, h⟩))
theorem isLst_some {o : Option O} (h : isLst o = true) : ∃ os, o = some (.lst os) := by
  unfold isLst at h
  split at h
  · exact ⟨_, rfl⟩
  · cases h
theorem s_setIx {i : Nat} {D : Ends} (h : tS c W (sSetIx i fa fb) D σ H) : tAsg (tV c W fa) (gSub (tVar i) (tV c W fb) rSetL) D σ H :=
  exprS h fun r e1 F S env res F1 S1 T1 v H1 g1 hh1 k1 is1 e q => by
    split at e
    · rename_i hb0
      obtain ⟨os0, hos⟩ := isLst_some hb0
      obtain ⟨a0, us0, Us0, l0⟩ := hh1.lat hos
      have t1 : Temps c F1 S1 σ H1 [r] [v] _ := Temps.one is1 g1.dT g1.oT
      refine ⟨_, l0.sl, ?_⟩
      rcases bind_some e with ⟨q2, e2, hb, e⟩ | ⟨x, e2, hb, rfl⟩
      · refine ⟨F1, S1, e1, hh1, _, hb, fun F2 S2 T2 w H2 g2 hh2 k2 is2 => ?_⟩
        obtain ⟨t2, _⟩ := t1.go g2 t1.offU
        cases hs : r.settle e2 with
        | none => rw [hs] at e; cases e
        | some p =>
          obtain ⟨x, e3⟩ := p
          rw [hs] at e
          simp only at e
          split at e
          · rename_i k
            unfold M.liftE at e
            obtain ⟨e4, h4, e⟩ := Option.map_eq_some_iff.mp e
            cases e
            obtain ⟨os, os', ha, hf, rfl⟩ := onList_some h4
            obtain ⟨n, hn, rfl⟩ := Option.map_eq_some_iff.mp hf
            obtain ⟨F3, S3, hh3, t3, g3, k3⟩ := settles_ok (os := [x]) hh2 t2 (by unfold settles; rw [hs]; rfl)
            have ro : RO c F3 H2 v x _ := t3.is 0 (.o x) v rfl rfl
            obtain ⟨a, us, Us, l⟩ := hh3.lat ha
            have ea : a = a0 := by have := l.sl; rw [l0.sl] at this; cases this; rfl
            subst ea
            have hw : w = .int k := by
              cases is2 with
              | val rp _ => cases rp; rfl
            subst hw
            refine hh3.putIx ha l (ixN_lt hn) ro (fun i y hy => t3.offS 0 i y hy) (fun y hy => t3.offF 0 y hy) fun S4 hh4 g4 k4 => ?_
            refine ⟨a, us, k, n, rfl, rfl, l.ob, by rw [l.len, ← ixN_eq]; exact hn, ?_⟩
            refine q F3 S4 noT σ _ ?_ hh4 ((k1.trans k2).trans (k3.trans k4))
            have gA := (g1.add (T' := fun x => (0 : Nat) = 0 ∧ T1 x) g2 (fun x h => .inl h) (fun x h => .inl h.2) (fun x h => t2.offF 0 x ⟨rfl, h⟩) fun i x h => t2.offS 0 i x ⟨rfl, h⟩).add (T' := fun x => (0 : Nat) = 0 ∧ T1 x) g3 (fun x h => .inl h) (fun x h => .inl h) (fun x h => t3.offF 0 x h) fun i x h => t3.offS 0 i x h
            exact gA.trans g4 fun x h => h
          · cases e
      · exact ⟨F1, S1, e1, hh1, _, hb, EndX_S (PostS_go (res := .ex x e2) g1 k1 q)⟩
    · cases e
def rGetL : V → V → Hp → VK → Prop := fun x y H Q => ∃ p xs i v, x = .ref p ∧ y = .int i ∧ H p = some (.lst xs) ∧ 0 ≤ i ∧ i < 2 ^ 62 ∧ xs[i.toNat]? = some v ∧ Q v H
theorem get_list : PGet X rGetL := by
  intro pins s σ H o i ov iv Q I ro ri h
  obtain ⟨p, xs, k, v, rfl, rfl, hp, h0, h1, hx, q⟩ := h
  cases ro
  obtain ⟨t, rfl⟩ := ri
  obtain ⟨its, r, pl, hz⟩ := I.list (.inl (.inl hp))
  obtain ⟨u, hu, ru⟩ := r.get hx
  exact wpAny_getItem_list pl.isList h0 (by omega) (by simpa using hu) ⟨v, H, I, ru, q⟩
end VS
namespace VS
open PySem L2
variable {c : Cn} {W : WX} {F F' F1 F2 H H' H1 H2 : Hp} {S S' S1 S2 : Nat → Set1} {T T' T1 T2 : Set1} {σ σ' σ1 : L2.St} {r : R} {v : V} {env env' env1 : VEnv} {Q : VK} {fa fb fc : EV} {X : Cx}
def AugOk (c : Cn) (f : List D → Option D) (ti : TIp) : Prop := ∀ (H : Hp) (x y : V) (d1 d2 z : D) (Q : VK), Rep c H x d1 → Rep c H y d2 → f [d1, d2] = some z → ∃ w, scV z = some w ∧ (Q w H → ti x y H Q)
theorem aug_addI : AugOk c fAddI (ipI fun i j => i + j) := fun H x y d1 d2 z Q r1 r2 e => by
  unfold fAddI at e
  split at e
  · rename_i i j h
    cases h
    cases e
    cases r1
    cases r2
    exact ⟨_, rfl, fun q => ⟨_, _, rfl, rfl, q⟩⟩
  · cases e
theorem aug_subI : AugOk c fSubI (ipI fun i j => i - j) := fun H x y d1 d2 z Q r1 r2 e => by
  unfold fSubI at e
  split at e
  · rename_i i j h
    cases h
    cases e
    cases r1
    cases r2
    exact ⟨_, rfl, fun q => ⟨_, _, rfl, rfl, q⟩⟩
  · cases e
theorem Hold.setv {i : Nat} {d : D} (hh : Hold c F S env σ H) (hr : Rep c F v d) (hs : setLoc i (.val d) env = some env') : ∃ S', Hold c F S' env' (σ.set i (some v)) H ∧ Go F (un S) H F S' noT H ∧ Kp env σ env' (σ.set i (some v)) := by
  have := tg_name (c := c) (i := i) F S env σ H v (.val d) noT env' (fun σ' H' => ∃ S', Hold c F S' env' σ' H ∧ Go F (un S) H F S' noT H ∧ Kp env σ env' σ') hh (.val hr fun x h => h) (fun i a h => h.elim) (fun a h => h.elim) (by simpa [Tg.set] using hs)
    (fun S' σ' g h k _ => ⟨S', h, g.wide fun x h => h.elim id fun h => h.elim, k⟩)
  exact this
theorem s_aug {i : Nat} {f : List D → Option D} {ti : TIp} {D : Ends} (hf : AugOk c f ti) (h : tS c W (sAug i f fa) D σ H) : tAug i (tV c W fa) ti D σ H := by
  obtain ⟨F, S, env, hh, res, e, q⟩ := h
  unfold sAug at e
  split at e
  · rename_i x ha
    obtain ⟨w, hw, ro⟩ := hh.cell i _ ha
    cases ro with
    | val rp _ =>
      refine ⟨w, hw, ?_⟩
      rcases bind_some e with ⟨r, e1, h1, e⟩ | ⟨y, e1, h1, rfl⟩
      · refine ⟨F, S, env, hh, _, h1, fun F1 S1 T1 v H1 g1 hh1 k1 is1 => ?_⟩
        unfold augV at e
        cases hd : r.data e1 with
        | none => rw [hd] at e; cases e
        | some y =>
          rw [hd] at e
          simp only at e
          cases hz : f [x, y] with
          | none => rw [hz] at e; cases e
          | some z =>
            rw [hz] at e
            simp only at e
            obtain ⟨e2, h2, e⟩ := Option.map_eq_some_iff.mp e
            cases e
            obtain ⟨u, hu, i2⟩ := hf H1 w v x y z (fun z H2 => D.nx (σ.set i (some z)) H2) ((rp.up g1.exF).up hh1.ex) (is1.rep hh1 hd) hz
            refine i2 ?_
            obtain ⟨S3, hh3, g3, k3⟩ := hh1.setv (scV_rep hu F1) h2
            exact q F1 S3 noT _ H1 (g1.transS g3) hh3 (k1.trans k3)
      · exact ⟨F, S, env, hh, _, h1, EndX_S q⟩
  · cases e
theorem s_augIx {i : Nat} {f : List D → Option D} {ti : TIp} {D : Ends} (hf : AugOk c f ti) (h : tS c W (sAugIx i fa f fb) D σ H) : tAugS (tVar i) (tV c W fa) (tV c W fb) rGetL ti rSetL D σ H := by
  obtain ⟨F, S, env, hh, res, e, q⟩ := h
  unfold sAugIx at e
  split at e
  · rename_i hb0
    obtain ⟨os0, hos⟩ := isLst_some hb0
    obtain ⟨a, us0, Us0, l0⟩ := hh.lat hos
    refine ⟨_, l0.sl, ?_⟩
    rcases bind_some e with ⟨q1, e1, h1, e⟩ | ⟨y, e1, h1, rfl⟩
    · refine ⟨F, S, env, hh, _, h1, fun F1 S1 T1 w H1 g1 hh1 k1 is1 => ?_⟩
      split at e
      · rename_i k
        split at e
        · rename_i hk
          have hw : w = .int k := by
            cases is1 with
            | val rp _ => cases rp; rfl
          subst hw
          cases hx : itemAt i k e1 with
          | none => rw [hx] at e; cases e
          | some x =>
            rw [hx] at e
            simp only at e
            unfold itemAt at hx
            split at hx
            · rename_i os1 ha1
              split at hx
              · rename_i d hd
                cases hx
                obtain ⟨a1, us1, Us1, l1⟩ := hh1.lat ha1
                have ea : a1 = a := by have := l1.sl; rw [l0.sl] at this; cases this; rfl
                subst ea
                unfold atD ixN' at hd
                rw [if_pos hk.1] at hd
                have hlt : k < (os1.length : Int) := by
                  apply Classical.byContradiction
                  intro hn
                  rw [if_neg hn] at hd
                  cases hd
                rw [if_pos hlt] at hd
                have hd : os1[k.toNat]? = some (.val x) := hd
                obtain ⟨u, o, hu, ho⟩ := get_of_lt l1.len (List.getElem?_eq_some_iff.mp hd).1
                have ro := l1.ro _ u _ hu hd
                cases ro with
                | val rp _ =>
                  refine ⟨a1, us1, k, u, rfl, rfl, l1.ob, hk.1, hk.2, hu, ?_⟩
                  rcases bind_some e with ⟨r, e2, h2, e⟩ | ⟨y, e2, h2, rfl⟩
                  · refine ⟨F1, S1, e1, hh1, _, h2, fun F2 S2 T2 v H2 g2 hh2 k2 is2 => ?_⟩
                    unfold augEnd at e
                    cases hd2 : r.data e2 with
                    | none => rw [hd2] at e; cases e
                    | some y =>
                      rw [hd2] at e
                      simp only at e
                      cases hz : f [x, y] with
                      | none => rw [hz] at e; cases e
                      | some z =>
                        rw [hz] at e
                        simp only at e
                        obtain ⟨e3, h3, e⟩ := Option.map_eq_some_iff.mp e
                        cases e
                        obtain ⟨os, os', ha, hfo, rfl⟩ := onList_some h3
                        obtain ⟨n, hn, rfl⟩ := Option.map_eq_some_iff.mp hfo
                        obtain ⟨a2, us, Us, l⟩ := hh2.lat ha
                        have ea : a2 = a1 := by have := l.sl; rw [l1.sl] at this; cases this; rfl
                        subst ea
                        obtain ⟨w, hw, i2⟩ := hf H2 u v x y z (fun z H5 => rSetL (.ref a2) (.int k) z H5 fun H6 => D.nx σ H6) ((rp.up g2.exF).up hh2.ex) (is2.rep hh2 hd2) hz
                        refine i2 ?_
                        refine hh2.putIx (T := noT) ha l (ixN_lt hn) (RO.val (scV_rep hw F2) fun x h => h) (fun i y hy => hy.elim) (fun y hy => hy.elim) fun S4 hh4 g4 k4 => ?_
                        refine ⟨a2, us, k, n, rfl, rfl, l.ob, by rw [l.len, ← ixN_eq]; exact hn, ?_⟩
                        refine q F2 S4 noT σ _ ?_ hh4 (k1.trans (k2.trans k4))
                        exact (g1.transS g2).trans g4 fun x h => h.imp id fun h => h.elim
                  · exact ⟨F1, S1, e1, hh1, _, h2, EndX_S (PostS_go (res := .ex y e2) g1 k1 q)⟩
              · cases hx
            · cases hx
        · cases e
      · cases e
    · exact ⟨F, S, env, hh, _, h1, EndX_S q⟩
  · cases e
end VS
namespace VS
open PySem L2
variable {c : Cn} {W : WX} {F F' F1 F2 H H' H1 H2 : Hp} {S S' S1 S2 : Nat → Set1} {T T' T1 T2 : Set1} {σ σ' σ1 : L2.St} {r : R} {v : V} {env env' env1 : VEnv} {Q : VK} {fa fb fc : EV} {X : Cx}
def HoldA (c : Cn) (F : Hp) (S : Nat → Set1) (os : List O) (vs : List V) (H : Hp) : Prop := Hold c F S (os.map Cell.loc) (vs.map some) H
def spV (c : Cn) (ms : List Bool) (g : Fn) : Sp := fun vs H Q E => ∃ F S os, HoldA c F S os vs H ∧ argsOk ms os = true ∧ ∃ res, g os = some res ∧ match res with
  | .ret x os' => ∀ F' S' T v H', Go F (un S) H F' S' T H' → HoldA c F' S' os' vs H' → RO c F' H' v x T → Q v H'
  | .ex e os' => ∀ F' S' H' cls d, Go F (un S) H F' S' noT H' → HoldA c F' S' os' vs H' → Thrown c F' H' e cls d → E cls d H'
theorem argsOk_len : ∀ {ms : List Bool} {os : List O}, argsOk ms os = true → os.length = ms.length
  | [], [], _ => rfl
  | true :: ms, _ :: os, h => by simp only [argsOk] at h; simp [argsOk_len h]
  | false :: ms, .val _ :: os, h => by simp only [argsOk] at h; simp [argsOk_len h]
  | false :: ms, .lst _ :: os, h => by simp [argsOk] at h
  | false :: ms, .tup _ :: os, h => by simp [argsOk] at h
  | false :: ms, .dct _ _ :: os, h => by simp [argsOk] at h
  | false :: ms, .ins _ _ :: os, h => by simp [argsOk] at h
  | [], _ :: _, h => by simp [argsOk] at h
  | true :: _, [], h => by simp [argsOk] at h
  | false :: _, [], h => by simp [argsOk] at h
theorem argsOk_val : ∀ {ms : List Bool} {os : List O} {k : Nat} {o : O}, argsOk ms os = true → ms[k]? = some false → os[k]? = some o → ∃ d, o = .val d
  | true :: ms, _ :: os, 0, o, h, hm, ho => by cases hm
  | true :: ms, _ :: os, k + 1, o, h, hm, ho => by simp only [argsOk] at h; exact argsOk_val h (by simpa using hm) (by simpa using ho)
  | false :: ms, .val d :: os, 0, o, h, hm, ho => ⟨d, by cases ho; rfl⟩
  | false :: ms, .val _ :: os, k + 1, o, h, hm, ho => by simp only [argsOk] at h; exact argsOk_val h (by simpa using hm) (by simpa using ho)
  | [], _, k, o, h, hm, ho => by simp at hm
  | false :: ms, .lst _ :: os, k, o, h, _, _ => by simp [argsOk] at h
  | false :: ms, .tup _ :: os, k, o, h, _, _ => by simp [argsOk] at h
  | false :: ms, .dct _ _ :: os, k, o, h, _, _ => by simp [argsOk] at h
  | false :: ms, .ins _ _ :: os, k, o, h, _, _ => by simp [argsOk] at h
  | true :: _, [], k, o, h, _, ho => by simp at ho
  | false :: _, [], k, o, h, _, ho => by simp at ho
theorem init_at : ∀ {ms : List Bool} {os : List O} {n : Nat} (k : Nat), argsOk ms os = true → (initEnv ms os n).at k = os[k]?
  | [], [], n, k, _ => by
    unfold initEnv VEnv.at
    rw [List.getElem?_replicate]
    split
    · rename_i o h; split at h <;> cases h
    · rename_i o h; split at h <;> cases h
    · simp
  | true :: ms, x :: os, n, 0, h => rfl
  | true :: ms, x :: os, n, k + 1, h => by simp only [argsOk] at h; have := init_at (n := n) k h; simpa [initEnv, VEnv.at] using this
  | false :: ms, .val d :: os, n, 0, h => rfl
  | false :: ms, .val d :: os, n, k + 1, h => by simp only [argsOk] at h; have := init_at (n := n) k h; simpa [initEnv, VEnv.at] using this
  | false :: ms, .lst _ :: os, n, k, h => by simp [argsOk] at h
  | false :: ms, .tup _ :: os, n, k, h => by simp [argsOk] at h
  | false :: ms, .dct _ _ :: os, n, k, h => by simp [argsOk] at h
  | false :: ms, .ins _ _ :: os, n, k, h => by simp [argsOk] at h
  | [], _ :: _, n, k, h => by simp [argsOk] at h
  | true :: _, [], n, k, h => by simp [argsOk] at h
  | false :: _, [], n, k, h => by simp [argsOk] at h
theorem init_len : ∀ {ms : List Bool} {os : List O} {n : Nat}, argsOk ms os = true → (initEnv ms os n).length = os.length + n
  | [], [], n, _ => by simp [initEnv]
  | true :: ms, x :: os, n, h => by simp only [argsOk] at h; simp [initEnv, init_len (n := n) h]; omega
  | false :: ms, .val d :: os, n, h => by simp only [argsOk] at h; simp [initEnv, init_len (n := n) h]; omega
  | false :: ms, .lst _ :: os, n, h => by simp [argsOk] at h
  | false :: ms, .tup _ :: os, n, h => by simp [argsOk] at h
  | false :: ms, .dct _ _ :: os, n, h => by simp [argsOk] at h
  | false :: ms, .ins _ _ :: os, n, h => by simp [argsOk] at h
  | [], _ :: _, n, h => by simp [argsOk] at h
  | true :: _, [], n, h => by simp [argsOk] at h
  | false :: _, [], n, h => by simp [argsOk] at h
theorem loc_at {os : List O} (k : Nat) : VEnv.at (os.map Cell.loc) k = os[k]? := by
  unfold VEnv.at
  rw [List.getElem?_map]
  cases os[k]? <;> rfl
theorem outs_spec : ∀ {ms : List Bool} {os os' : List O} {env : VEnv}, outs ms os env = some os' → os'.length = os.length ∧ ∀ (k : Nat) (o : O), os'[k]? = some o → (ms[k]? = some false ∧ os[k]? = some o) ∨ (ms[k]? = some true ∧ env[k]? = some (Cell.par o))
  | [], [], os', env, h => by simp [outs] at h; subst h; exact ⟨rfl, fun k o h => by simp at h⟩
  | true :: ms, x0 :: os, os', .par x :: env, h => by
    simp only [outs] at h
    obtain ⟨r, hr, rfl⟩ := Option.map_eq_some_iff.mp h
    obtain ⟨h1, h2⟩ := outs_spec hr
    refine ⟨by simp [h1], fun k o ho => ?_⟩
    cases k with
    | zero => cases ho; exact .inr ⟨rfl, rfl⟩
    | succ k => simpa using h2 k o (by simpa using ho)
  | false :: ms, x :: os, os', c0 :: env, h => by
    simp only [outs] at h
    obtain ⟨r, hr, rfl⟩ := Option.map_eq_some_iff.mp h
    obtain ⟨h1, h2⟩ := outs_spec hr
    refine ⟨by simp [h1], fun k o ho => ?_⟩
    cases k with
    | zero => cases ho; exact .inl ⟨rfl, rfl⟩
    | succ k => simpa using h2 k o (by simpa using ho)
  | [], _ :: _, os', env, h => by simp [outs] at h
  | true :: _, [], os', env, h => by simp [outs] at h
  | false :: _, [], os', env, h => by simp [outs] at h
  | true :: _, _ :: _, os', [], h => by simp [outs] at h
  | true :: _, _ :: _, os', .no :: _, h => by simp [outs] at h
  | true :: _, _ :: _, os', .loc _ :: _, h => by simp [outs] at h
  | false :: _, _ :: _, os', [], h => by simp [outs] at h
theorem start_get {N : List Str} {vs : List V} {k : Nat} (h : k < vs.length) : (L2.start N vs)[k]? = (vs.map some)[k]? := by
  unfold L2.start
  rw [List.getElem?_append_left (by simpa using h)]
theorem hold_init {N : List Str} {ms : List Bool} {os : List O} {vs : List V} {n : Nat} (hh : HoldA c F S os vs H) (h : argsOk ms os = true) (hN : N.length = os.length + n) : Hold c F S (initEnv ms os n) (L2.start N vs) H := by
  have lv : vs.length = os.length := by have := hh.len; simpa using this.symm
  refine ⟨hh.ex, ?_, fun k o ho => ?_, hh.dis, hh.off, fun k x hx => ?_⟩
  · rw [init_len h]; unfold L2.start; rw [List.length_append, List.length_map, List.length_replicate]; omega
  · rw [init_at k h] at ho
    obtain ⟨v, hv, ro⟩ := hh.cell k o (by rw [loc_at]; exact ho)
    have hk : k < vs.length := by rw [lv]; exact (List.getElem?_eq_some_iff.mp ho).1
    exact ⟨v, by rw [start_get hk]; exact hv, ro⟩
  · obtain ⟨o, ho⟩ := hh.dead k x hx
    rw [loc_at] at ho
    exact ⟨o, by rw [init_at k h]; exact ho⟩
theorem hold_outs {N : List Str} {ms : List Bool} {os os' : List O} {vs : List V} {n : Nat} (hh : HoldA c F S os vs H) (h : argsOk ms os = true) (hh' : Hold c F' S' env' σ' H') (k : Kp (initEnv ms os n) (L2.start N vs) env' σ') (e : outs ms os env' = some os') (eF : Same F F') (ax : T = T) :
    ∃ S2, HoldA c F' S2 os' vs H' ∧ (∀ i x, S2 i x → S' i x) := by
  obtain ⟨l, sp⟩ := outs_spec e
  have lv : vs.length = os.length := by have := hh.len; simpa using this.symm
  have sub : ∀ (i : Nat) (x : Addr), (if ms[i]? = some true then S' i else noT) x → S' i x := fun i x h => by
    split at h
    · exact h
    · exact h.elim
  refine ⟨fun i => if ms[i]? = some true ∧ i < os'.length then S' i else noT, ⟨hh'.ex, by simp [l, lv], fun i o ho => ?_, fun i j x hi hj => ?_, fun i x hi => ?_, fun i x hi => ?_⟩, fun i x hi => ?_⟩
  · rw [loc_at] at ho
    have hi : i < os'.length := (List.getElem?_eq_some_iff.mp ho).1
    rcases sp i o ho with ⟨hm, ho2⟩ | ⟨hm, hc⟩
    · obtain ⟨d, rfl⟩ := argsOk_val h hm ho2
      obtain ⟨v, hv, ro⟩ := hh.cell i _ (by rw [loc_at]; exact ho2)
      refine ⟨v, hv, ?_⟩
      cases ro with
      | val rp _ =>
        rw [if_neg (by rw [hm]; simp)]
        exact .val (rp.up eF) fun x h => h
    · obtain ⟨v, hv, ro⟩ := hh'.cell i o (at_par hc)
      rw [if_pos ⟨hm, hi⟩]
      refine ⟨v, ?_, ro⟩
      rw [← hv, (k i o hc).2, start_get (by rw [lv, ← l]; exact hi)]
  · split at hi
    · split at hj
      · exact hh'.dis i j x hi hj
      · exact hj.elim
    · exact hi.elim
  · split at hi
    · exact hh'.off i x hi
    · exact hi.elim
  · split at hi
    · rename_i z
      rw [loc_at]
      exact ⟨_, List.getElem?_eq_getElem z.2⟩
    · exact hi.elim
  · simp only at hi
    split at hi
    · exact hi
    · exact hi.elim
theorem Go.subS {U : Set1} (g : Go F U H F1 S1 T H1) (h : ∀ i x, S2 i x → S1 i x) : Go F U H F1 S2 T H1 := ⟨g.exF, g.fr, fun i x hx => g.nS i x (h i x hx), g.nT, g.nF, fun i x hx hs => g.dT i x hx (h i x hs), g.oT⟩
theorem body_sp {N : List Str} {ms : List Bool} {n : Nat} {body : SV1} {vs : List V} {E : XK} (h : spV c ms (fnSem ms n body) vs H Q E) (hN : N.length = ms.length + n) :
    tS c (fun cls d _ H => E cls d H) body { nx := fun _ H' => Q .non H', rt := Q } (L2.start N vs) H := by
  obtain ⟨F, S, os, hh, ha, res, e, q⟩ := h
  unfold fnSem at e
  rw [if_pos ha] at e
  have hi := hold_init (N := N) (n := n) hh ha (by rw [hN, argsOk_len ha])
  cases hb : body (initEnv ms os n) with
  | none => rw [hb] at e; cases e
  | some rb =>
    rw [hb] at e
    refine ⟨F, S, _, hi, rb, hb, ?_⟩
    cases rb with
    | ex x env' =>
      obtain ⟨os', ho, e⟩ := Option.map_eq_some_iff.mp e
      cases e
      intro F' S' σ' H' cls d g hh' k th
      obtain ⟨S2, hA, sub⟩ := hold_outs (T := noT) hh ha hh' k ho g.exF rfl
      exact q F' S2 H' cls d (g.subS sub) hA th
    | ok o env' =>
      intro F' S' T σ' H' g hh' k
      cases o with
      | nx =>
        obtain ⟨os', ho, e⟩ := Option.map_eq_some_iff.mp e
        cases e
        obtain ⟨S2, hA, sub⟩ := hold_outs (T := noT) hh ha hh' k ho g.exF rfl
        exact q F' S2 noT .non H' (g.none.subS sub) hA (RO.val .non fun x h => h)
      | brk => cases e
      | cnt => cases e
      | ret x =>
        obtain ⟨os', ho, e⟩ := Option.map_eq_some_iff.mp e
        cases e
        intro v ro
        obtain ⟨S2, hA, sub⟩ := hold_outs (T := noT) hh ha hh' k ho g.exF rfl
        exact q F' S2 T v H' (g.subS sub) hA ro
end VS
namespace VS
open PySem L2
variable {c : Cn} {W : WX} {F F' F1 F2 H H' H1 H2 : Hp} {S S' S1 S2 : Nat → Set1} {T T' T1 T2 : Set1} {σ σ' σ1 : L2.St} {r : R} {v : V} {env env' env1 : VEnv} {Q : VK} {fa fb fc : EV} {X : Cx}
theorem mem_mut : ∀ {ms : List Bool} {rs : List R} {j : Nat}, j ∈ mutSlots ms rs ↔ ∃ k : Nat, ms[k]? = some true ∧ rs[k]? = some (R.b j)
  | [], rs, j => by simp [mutSlots]
  | m :: ms, [], j => by simp [mutSlots]
  | true :: ms, .b i :: rs, j => by
    simp only [mutSlots, List.mem_cons, mem_mut (ms := ms) (rs := rs)]
    constructor
    · rintro (rfl | ⟨k, h1, h2⟩)
      · exact ⟨0, rfl, rfl⟩
      · exact ⟨k + 1, by simpa using h1, by simpa using h2⟩
    · rintro ⟨k, h1, h2⟩
      cases k with
      | zero => simp at h2; exact .inl h2.symm
      | succ k => exact .inr ⟨k, by simpa using h1, by simpa using h2⟩
  | true :: ms, .o x :: rs, j => by
    simp only [mutSlots, mem_mut (ms := ms) (rs := rs)]
    constructor
    · rintro ⟨k, h1, h2⟩; exact ⟨k + 1, by simpa using h1, by simpa using h2⟩
    · rintro ⟨k, h1, h2⟩
      cases k with
      | zero => simp at h2
      | succ k => exact ⟨k, by simpa using h1, by simpa using h2⟩
  | false :: ms, r :: rs, j => by
    simp only [mutSlots, mem_mut (ms := ms) (rs := rs)]
    constructor
    · rintro ⟨k, h1, h2⟩; exact ⟨k + 1, by simpa using h1, by simpa using h2⟩
    · rintro ⟨k, h1, h2⟩
      cases k with
      | zero => simp at h1
      | succ k => exact ⟨k, by simpa using h1, by simpa using h2⟩
theorem mem_bor : ∀ {ms : List Bool} {rs : List R} {j k : Nat}, ms[k]? = some false → rs[k]? = some (R.b j) → j ∈ borSlots ms rs
  | [], rs, j, k, h, _ => by simp at h
  | m :: ms, [], j, k, _, h => by simp at h
  | m :: ms, r :: rs, j, 0, h1, h2 => by
    simp at h1 h2
    subst h1; subst h2
    simp [borSlots]
  | m :: ms, r :: rs, j, k + 1, h1, h2 => by
    have := mem_bor (ms := ms) (rs := rs) (j := j) (k := k) (by simpa using h1) (by simpa using h2)
    unfold borSlots
    split
    · exact List.mem_cons_of_mem _ this
    · exact this
theorem mut_uniq : ∀ {ms : List Bool} {rs : List R} {j k k' : Nat}, (mutSlots ms rs).Nodup → ms[k]? = some true → rs[k]? = some (R.b j) → ms[k']? = some true → rs[k']? = some (R.b j) → k = k'
  | [], rs, j, k, k', _, h, _, _, _ => by simp at h
  | m :: ms, [], j, k, k', _, _, h, _, _ => by simp at h
  | m :: ms, r :: rs, j, k, k', nd, h1, h2, h3, h4 => by
    cases k with
    | zero =>
      cases k' with
      | zero => rfl
      | succ k' =>
        simp at h1 h2
        subst h1; subst h2
        simp only [mutSlots, List.nodup_cons] at nd
        exact absurd (mem_mut.mpr ⟨k', by simpa using h3, by simpa using h4⟩) nd.1
    | succ k =>
      cases k' with
      | zero =>
        simp at h3 h4
        subst h3; subst h4
        simp only [mutSlots, List.nodup_cons] at nd
        exact absurd (mem_mut.mpr ⟨k, by simpa using h1, by simpa using h2⟩) nd.1
      | succ k' =>
        have nd' : (mutSlots ms rs).Nodup := by
          unfold mutSlots at nd
          split at nd
          · exact (List.nodup_cons.mp nd).2
          · exact nd
        exact congrArg (· + 1) (mut_uniq nd' (by simpa using h1) (by simpa using h2) (by simpa using h3) (by simpa using h4))
theorem pm_len : ∀ {ms : List Bool} {rs : List R} {os : List O} {env : VEnv}, (putMuts ms rs os env).length = env.length
  | [], rs, os, env => by cases rs <;> cases os <;> rfl
  | m :: ms, [], os, env => by cases os <;> rfl
  | m :: ms, r :: rs, [], env => rfl
  | m :: ms, r :: rs, x :: os, env => by
    unfold putMuts
    split
    · rw [pm_len, put_len]
    · exact pm_len
theorem pm_other : ∀ {ms : List Bool} {rs : List R} {os : List O} {env : VEnv} {j : Nat}, j ∉ mutSlots ms rs → (putMuts ms rs os env)[j]? = env[j]?
  | [], rs, os, env, j, _ => by cases rs <;> cases os <;> rfl
  | m :: ms, [], os, env, j, _ => by cases os <;> rfl
  | m :: ms, r :: rs, [], env, j, _ => rfl
  | m :: ms, r :: rs, x :: os, env, j, h => by
    unfold putMuts
    split
    · simp only [mutSlots, List.mem_cons, not_or] at h
      rw [pm_other h.2, put_ne h.1]
    · rename_i hn
      have h' : j ∉ mutSlots ms rs := by
        unfold mutSlots at h
        split at h
        · exact fun z => h (List.mem_cons_of_mem _ z)
        · exact h
      exact pm_other h'
theorem pm_at : ∀ {ms : List Bool} {rs : List R} {os : List O} {env : VEnv} {j k : Nat} {o : O}, (mutSlots ms rs).Nodup → ms[k]? = some true → rs[k]? = some (R.b j) → os[k]? = some o → j < env.length → (putMuts ms rs os env).at j = some o
  | [], rs, os, env, j, k, o, _, h, _, _, _ => by simp at h
  | m :: ms, [], os, env, j, k, o, _, _, h, _, _ => by simp at h
  | m :: ms, r :: rs, [], env, j, k, o, _, _, _, h, _ => by simp at h
  | m :: ms, r :: rs, x :: os, env, j, k, o, nd, h1, h2, h3, hl => by
    cases k with
    | zero =>
      simp at h1 h2 h3
      subst h1; subst h2; subst h3
      simp only [mutSlots, List.nodup_cons] at nd
      simp only [putMuts]
      rw [at_of_get (pm_other nd.1)]
      exact put_at hl
    | succ k =>
      unfold putMuts
      split
      · simp only [mutSlots, List.nodup_cons] at nd
        exact pm_at nd.2 (by simpa using h1) (by simpa using h2) (by simpa using h3) (by rw [put_len]; exact hl)
      · have nd' : (mutSlots ms rs).Nodup := by
          unfold mutSlots at nd
          split at nd
          · exact (List.nodup_cons.mp nd).2
          · exact nd
        exact pm_at nd' (by simpa using h1) (by simpa using h2) (by simpa using h3) hl
theorem pm_kp : ∀ {ms : List Bool} {rs : List R} {os : List O} {env : VEnv}, Kp env σ (putMuts ms rs os env) σ
  | [], rs, os, env => by cases rs <;> cases os <;> exact Kp.rfl'
  | m :: ms, [], os, env => by cases os <;> exact Kp.rfl'
  | m :: ms, r :: rs, [], env => Kp.rfl'
  | m :: ms, r :: rs, x :: os, env => by
    unfold putMuts
    split
    · exact Kp_put.trans pm_kp
    · exact pm_kp
theorem argO_spec : ∀ {ms : List Bool} {rs : List R} {env : VEnv} {os : List O}, argO ms rs env = some os → os.length = rs.length ∧ ms.length = rs.length ∧ ∀ (k : Nat) (o : O) (r : R), os[k]? = some o → rs[k]? = some r →
    (ms[k]? = some true ∧ r.own env = some o) ∨ (ms[k]? = some false ∧ ∃ d, o = .val d ∧ r.data env = some d)
  | [], [], env, os, h => by simp [argO] at h; subst h; exact ⟨rfl, rfl, fun k o r h => by simp at h⟩
  | [], _ :: _, env, os, h => by simp [argO] at h
  | _ :: _, [], env, os, h => by simp [argO] at h
  | m :: ms, r0 :: rs, env, os, h => by
    unfold argO at h
    split at h
    · rename_i x os1 hx hos
      cases h
      obtain ⟨l1, l2, sp⟩ := argO_spec hos
      refine ⟨by simp [l1], by simp [l2], fun k o r ho hr => ?_⟩
      cases k with
      | zero =>
        cases ho
        cases hr
        cases m with
        | true => rw [if_pos rfl] at hx; exact .inl ⟨rfl, hx⟩
        | false =>
          rw [if_neg Bool.false_ne_true] at hx
          obtain ⟨d, hd, rfl⟩ := Option.map_eq_some_iff.mp hx
          exact .inr ⟨rfl, d, rfl, hd⟩
      | succ k => simpa using sp k o r (by simpa using ho) (by simpa using hr)
    · cases h
theorem argO_ok : ∀ {ms : List Bool} {rs : List R} {env : VEnv} {os : List O}, argO ms rs env = some os → argsOk ms os = true
  | [], [], env, os, h => by simp [argO] at h; subst h; rfl
  | [], _ :: _, env, os, h => by simp [argO] at h
  | _ :: _, [], env, os, h => by simp [argO] at h
  | m :: ms, r0 :: rs, env, os, h => by
    unfold argO at h
    split at h
    · rename_i x os1 hx hos
      cases h
      have := argO_ok hos
      cases m with
      | true => simpa [argsOk] using this
      | false =>
        rw [if_neg Bool.false_ne_true] at hx
        obtain ⟨d, hd, rfl⟩ := Option.map_eq_some_iff.mp hx
        simpa [argsOk] using this
    · cases h
theorem imms_get : ∀ {ds : List D} {k : Nat} {d : D}, imms ds = true → ds[k]? = some d → d.imm = true
  | [], k, d, h, e => by simp at e
  | x :: ds, 0, d, h, e => by simp only [imms, Bool.and_eq_true] at h; cases e; exact h.1
  | x :: ds, k + 1, d, h, e => by
    simp only [imms, Bool.and_eq_true] at h
    exact imms_get h.2 (by simpa using e)
theorem cleans_get : ∀ {ds : List O} {k : Nat} {d : O}, cleans ds = true → ds[k]? = some d → d.clean = true
  | [], k, d, h, e => by simp at e
  | x :: ds, 0, d, h, e => by simp only [cleans, Bool.and_eq_true] at h; cases e; exact h.1
  | x :: ds, k + 1, d, h, e => by
    simp only [cleans, Bool.and_eq_true] at h
    exact cleans_get h.2 (by simpa using e)
theorem cleanK_get : ∀ {ds : List (D × O)} {k : Nat} {d : D × O}, cleanK ds = true → ds[k]? = some d → d.2.clean = true
  | [], k, d, h, e => by simp at e
  | (y, x) :: ds, 0, d, h, e => by simp only [cleanK, Bool.and_eq_true] at h; cases e; exact h.1
  | (y, x) :: ds, k + 1, d, h, e => by
    simp only [cleanK, Bool.and_eq_true] at h
    exact cleanK_get h.2 (by simpa using e)
theorem cleanF_get : ∀ {ds : List (Nat × O)} {k : Nat} {d : Nat × O}, cleanF ds = true → ds[k]? = some d → d.2.clean = true
  | [], k, d, h, e => by simp at e
  | (y, x) :: ds, 0, d, h, e => by simp only [cleanF, Bool.and_eq_true] at h; cases e; exact h.1
  | (y, x) :: ds, k + 1, d, h, e => by
    simp only [cleanF, Bool.and_eq_true] at h
    exact cleanF_get h.2 (by simpa using e)
theorem sqT_cut {F3 : Hp} {R1 : Set1} {a : Addr} {vs : List V} (h : F2 a = some (.tup vs)) (e : ∀ a, ¬ R1 a → F3 a = F2 a) (nt : ∀ a, R1 a → ∃ u, F2 a = some u ∧ Mu u) : F3 a = some (.tup vs) := by
  have hn : ¬ R1 a := fun hr => by
    obtain ⟨u, hu, mu⟩ := nt a hr
    rw [h] at hu; cases hu; exact mu
  rw [e a hn]; exact h
theorem Rep.cut {F3 : Hp} {R1 : Set1} {d : D} (r : Rep c F2 v d) (h : d.imm = true) (e : ∀ a, ¬ R1 a → F3 a = F2 a) (nt : ∀ a, R1 a → ∃ u, F2 a = some u ∧ Mu u) : Rep c F3 v d := by
  induction r with
  | non => exact .non
  | bl b => exact .bl b
  | int i => exact .int i
  | str s => exact .str s
  | tup hs l hr ih =>
    simp only [D.imm] at h
    exact .tup (sqT_cut hs e nt) l fun k v d hv hd => ih k v d hv hd (imms_get h hd)
  | lst hs l hr ih => simp [D.imm] at h
  | scr hs => simp [D.imm] at h
  | dK _ _ _ _ => simp [D.imm] at h
  | dT _ _ _ _ => simp [D.imm] at h
  | ins _ _ _ _ _ => simp [D.imm] at h
theorem RO.cut {F3 : Hp} {R1 : Set1} {o : O} (r : RO c F2 H2 v o T) (h : o.clean = true) (e : ∀ a, ¬ R1 a → F3 a = F2 a) (nt : ∀ a, R1 a → ∃ u, F2 a = some u ∧ Mu u) : RO c F3 H2 v o T := by
  induction r with
  | val rp hn => simp only [O.clean] at h; exact .val (rp.cut h e nt) hn
  | lst S hb l hr dj bd hT ih => simp only [O.clean] at h; exact .lst S hb l (fun k v o hv ho => ih k v o hv ho (cleans_get h ho)) dj bd hT
  | tup S hb l hr dj bd hT ih => simp only [O.clean] at h; exact .tup S (sqT_cut hb e nt) l (fun k v o hv ho => ih k v o hv ho (cleans_get h ho)) dj bd hT
  | dK S hb l hk hr dj bd hT ih => simp only [O.clean] at h; exact .dK S hb l hk (fun k v o hv ho => ih k v o hv ho (cleanK_get h ho)) dj bd hT
  | dT S hb l hk hr dj bd hT ih => simp only [O.clean] at h; exact .dT S hb l hk (fun k v o hv ho => ih k v o hv ho (cleanK_get h ho)) dj bd hT
  | ins S hc hb l hk hr dj bd hT ih => simp only [O.clean] at h; exact .ins S hc hb l hk (fun k v o hv ho => ih k v o hv ho (cleanF_get h ho)) dj bd hT
theorem cleanMuts_get : ∀ {ms : List Bool} {os : List O} {k : Nat} {o : O}, cleanMuts ms os = true → ms[k]? = some true → os[k]? = some o → o.clean = true
  | [], os, k, o, _, h, _ => by simp at h
  | m :: ms, [], k, o, _, _, h => by simp at h
  | m :: ms, x :: os, 0, o, h, h1, h2 => by
    simp at h1 h2
    subst h1; subst h2
    simp only [cleanMuts, Bool.and_eq_true] at h
    simpa using h.1
  | m :: ms, x :: os, k + 1, o, h, h1, h2 => by
    simp only [cleanMuts, Bool.and_eq_true] at h
    exact cleanMuts_get h.2 (by simpa using h1) (by simpa using h2)
end VS
namespace VS
open PySem L2
variable {c : Cn} {W : WX} {F F' F1 F2 H H' H1 H2 : Hp} {S S' S1 S2 : Nat → Set1} {T T' T1 T2 : Set1} {σ σ' σ1 : L2.St} {r : R} {v : V} {env env' env1 : VEnv} {Q : VK} {fa fb fc : EV} {X : Cx}
def ofR (S Ts : Nat → Set1) (k : Nat) : Option R → Set1
  | some (.b i) => S i
  | some (.o _) => Ts k
  | none => noT
def Sc (ms : List Bool) (rs : List R) (S Ts : Nat → Set1) : Nat → Set1 := fun k x => ms[k]? = some true ∧ ofR S Ts k rs[k]? x
def Lent (ms : List Bool) (rs : List R) (S : Nat → Set1) : Set1 := fun x => ∃ i, i ∈ borSlots ms rs ∧ S i x
def Given (ms : List Bool) (Ts : Nat → Set1) : Set1 := fun x => ∃ k, ms[k]? = some false ∧ Ts k x
theorem cut_region (H F : Hp) (A : Set1) : ∃ F1 : Hp, (∀ x, A x → F1 x = H x) ∧ (∀ x, ¬ A x → F1 x = F x) :=
  ⟨fun x => @ite _ (A x) (Classical.propDecidable _) (H x) (F x), fun x hx => if_pos hx, fun x hx => if_neg hx⟩
theorem bor_mem : ∀ {ms : List Bool} {rs : List R} {j : Nat}, j ∈ borSlots ms rs → ∃ k : Nat, ms[k]? = some false ∧ rs[k]? = some (R.b j)
  | [], rs, j, h => by simp [borSlots] at h
  | m :: ms, [], j, h => by simp [borSlots] at h
  | m :: ms, r :: rs, j, h => by
    unfold borSlots at h
    split at h
    · rcases List.mem_cons.mp h with rfl | h
      · exact ⟨0, rfl, rfl⟩
      · obtain ⟨k, h1, h2⟩ := bor_mem h
        exact ⟨k + 1, by simpa using h1, by simpa using h2⟩
    · obtain ⟨k, h1, h2⟩ := bor_mem h
      exact ⟨k + 1, by simpa using h1, by simpa using h2⟩
section
variable {ms : List Bool} {rs : List R} {vs : List V} {Ts : Nat → Set1} {os os' : List O}
theorem call_pre (hh : Hold c F S env σ H) (t : Temps c F S σ H rs vs Ts) (ea : argO ms rs env = some os) (ok : okSlots ms rs = true) (hF1 : ∀ x, (Lent ms rs S x ∨ Given ms Ts x) → F1 x = H x) (hF2 : ∀ x, ¬ (Lent ms rs S x ∨ Given ms Ts x) → F1 x = F x) :
    HoldA c F1 (Sc ms rs S Ts) os vs H ∧ Same F F1 := by
  obtain ⟨l1, l2, sp⟩ := argO_spec ea
  unfold okSlots at ok
  simp only [Bool.and_eq_true, decide_eq_true_eq, List.all_eq_true] at ok
  obtain ⟨nd, apart⟩ := ok
  have eF : Same F F1 := fun a u e => by
    rw [hF2 a ?_]
    · exact e
    · rintro (⟨i, _, h⟩ | ⟨k, _, h⟩)
      · rw [hh.off i a h] at e; cases e
      · rw [t.offF k a h] at e; cases e
  have eH : Same F1 H := fun a u e => by
    by_cases h : Lent ms rs S a ∨ Given ms Ts a
    · rw [hF1 a h] at e; exact e
    · rw [hF2 a h] at e; exact hh.ex a u e
  -- an owned argument's address is not frozen
  have free : ∀ k x, Sc ms rs S Ts k x → ¬ (Lent ms rs S x ∨ Given ms Ts x) := by
    rintro k x ⟨hm, hx⟩ (⟨i, hi, h⟩ | ⟨k', hm', h⟩)
    · cases hr : rs[k]? with
      | none => rw [hr] at hx; exact hx
      | some r =>
        rw [hr] at hx
        cases r with
        | b j =>
          have e := hh.dis j i x hx h
          subst e
          have := apart j (mem_mut.mpr ⟨k, hm, hr⟩)
          simp at this
          exact this hi
        | o y => exact t.offS k i x hx h
    · cases hr : rs[k]? with
      | none => rw [hr] at hx; exact hx
      | some r =>
        rw [hr] at hx
        cases r with
        | b j => exact t.offS k' j x h hx
        | o y =>
          have e := t.dis k k' x hx h
          subst e
          rw [hm] at hm'; cases hm'
  refine ⟨⟨eH, by simp [l1, t.len], fun k o ho => ?_, fun k k' x hk hk' => ?_, fun k x hk => ?_, fun k x hk => ?_⟩, eF⟩
  · rw [loc_at] at ho
    have hk : k < rs.length := by rw [← l1]; exact (List.getElem?_eq_some_iff.mp ho).1
    obtain ⟨v, r, hv, hr⟩ := get_of_lt t.len hk
    refine ⟨v, by rw [List.getElem?_map, hv]; rfl, ?_⟩
    have is := t.is k r v hr hv
    rcases sp k o r ho hr with ⟨hm, hown⟩ | ⟨hm, d, rfl, hd⟩
    · cases r with
      | o y =>
        cases hown
        have e : Sc ms rs S Ts k = Ts k := funext fun x => propext ⟨fun h => by have := h.2; rw [hr] at this; exact this, fun h => ⟨hm, by rw [hr]; exact h⟩⟩
        rw [e]
        exact RO.up is eF fun x u _ hu => hu
      | b j =>
        obtain ⟨v', hv', ro⟩ := hh.cell j o hown
        rw [is.1] at hv'
        cases hv'
        have e : Sc ms rs S Ts k = S j := funext fun x => propext ⟨fun h => by have := h.2; rw [hr] at this; exact this, fun h => ⟨hm, by rw [hr]; exact h⟩⟩
        rw [e]
        exact ro.up eF fun x u _ hu => hu
    · have no : ∀ x, ¬ Sc ms rs S Ts k x := fun x h => by have := h.1; rw [hm] at this; cases this
      unfold R.data at hd
      obtain ⟨o', ho', rfl⟩ := Option.map_eq_some_iff.mp hd
      cases r with
      | o y =>
        cases ho'
        exact .val (RO.rep is eF fun x u hx hu => by rw [hF1 x (.inr ⟨k, hm, hx⟩)]; exact hu) no
      | b j =>
        obtain ⟨v', hv', ro⟩ := hh.cell j o' ho'
        rw [is.1] at hv'
        cases hv'
        exact .val (ro.rep eF fun x u hx hu => by rw [hF1 x (.inl ⟨j, mem_bor hm hr, hx⟩)]; exact hu) no
  · obtain ⟨hm, hx⟩ := hk
    obtain ⟨hm', hx'⟩ := hk'
    cases hr : rs[k]? with
    | none => rw [hr] at hx; exact hx.elim
    | some r =>
      rw [hr] at hx
      cases hr' : rs[k']? with
      | none => rw [hr'] at hx'; exact hx'.elim
      | some r' =>
        rw [hr'] at hx'
        cases r with
        | b j =>
          cases r' with
          | b j' =>
            have e := hh.dis j j' x hx hx'
            subst e
            exact mut_uniq nd hm hr hm' hr'
          | o y => exact absurd hx (t.offS k' j x hx')
        | o y =>
          cases r' with
          | b j' => exact absurd hx' (t.offS k j' x hx)
          | o y' => exact t.dis k k' x hx hx'
  · rw [hF2 x (free k x hk)]
    obtain ⟨hm, hx⟩ := hk
    cases hr : rs[k]? with
    | none => rw [hr] at hx; exact hx.elim
    | some r =>
      rw [hr] at hx
      cases r with
      | b j => exact hh.off j x hx
      | o y => exact t.offF k x hx
  · obtain ⟨hm, hx⟩ := hk
    rw [loc_at]
    have hk : k < os.length := by
      rw [l1, ← l2]
      exact (List.getElem?_eq_some_iff.mp hm).1
    exact ⟨_, List.getElem?_eq_getElem hk⟩
theorem sc_sub {k : Nat} {x : Addr} (h : Sc ms rs S Ts k x) : un S x ∨ un Ts x := by
  obtain ⟨_, hx⟩ := h
  cases hr : rs[k]? with
  | none => rw [hr] at hx; exact hx.elim
  | some r =>
    rw [hr] at hx
    cases r with
    | b j => exact .inl ⟨j, hx⟩
    | o y => exact .inr ⟨k, hx⟩
theorem call_post (hh : Hold c F S env σ H) (t : Temps c F S σ H rs vs Ts) (ea : argO ms rs env = some os) (ok : okSlots ms rs = true) (hF1 : ∀ x, (Lent ms rs S x ∨ Given ms Ts x) → F1 x = H x) (hF2 : ∀ x, ¬ (Lent ms rs S x ∨ Given ms Ts x) → F1 x = F x)
    (g : Go F1 (un (Sc ms rs S Ts)) H F2 S2 T H2) (hA : HoldA c F2 S2 os' vs H2) (cl : borSlots ms rs = [] ∨ cleanMuts ms os' = true) :
    ∃ F3 S3, Hold c F3 S3 (putMuts ms rs os' env) σ H2 ∧ Go F (fun x => un S x ∨ un Ts x) H F3 S3 T H2 ∧ (∀ a, ¬ Lent ms rs S a → F3 a = F2 a) ∧ (∀ a, Lent ms rs S a → ∃ u, F2 a = some u ∧ Mu u) ∧ (∀ a, Lent ms rs S a → F3 a = none) := by
  obtain ⟨l1, l2, sp⟩ := argO_spec ea
  obtain ⟨_, eF⟩ := call_pre hh t ea ok hF1 hF2
  have ok' := ok
  unfold okSlots at ok'
  simp only [Bool.and_eq_true, decide_eq_true_eq, List.all_eq_true] at ok'
  obtain ⟨nd, apart⟩ := ok'
  obtain ⟨F3, h31, h32⟩ := cut_region (fun _ => none) F2 (Lent ms rs S)
  have nt : ∀ a, Lent ms rs S a → ∃ u, F2 a = some u ∧ Mu u := fun a ha => by
    obtain ⟨i, hi, hs⟩ := ha
    obtain ⟨u, hu, mu⟩ := hh.own hs
    exact ⟨u, g.exF a u (by rw [hF1 a (.inl ⟨i, hi, hs⟩)]; exact hu), mu⟩
  have e3 : Same F F3 := fun a u e => by
    rw [h32 a ?_]
    · exact g.exF a u (eF a u e)
    · rintro ⟨i, _, h⟩
      rw [hh.off i a h] at e; cases e
  have e3H : Same F3 H2 := fun a u e => by
    by_cases h : Lent ms rs S a
    · rw [h31 a h] at e; cases e
    · rw [h32 a h] at e; exact hA.ex a u e
  have l3 : os'.length = rs.length := by have := hA.len; simp at this; rw [this, t.len]
  -- a slot that is not handed over
  have notSc : ∀ j x, j ∉ mutSlots ms rs → S j x → ¬ un (Sc ms rs S Ts) x := by
    rintro j x hj hs ⟨k, hm, hx⟩
    cases hr : rs[k]? with
    | none => rw [hr] at hx; exact hx
    | some r =>
      rw [hr] at hx
      cases r with
      | b i =>
        have e := hh.dis i j x hx hs
        subst e
        exact hj (mem_mut.mpr ⟨k, hm, hr⟩)
      | o y => exact t.offS k j x hx hs
  have s2 : ∀ k x, S2 k x → ∃ o, os'[k]? = some o := fun k x h => by
    obtain ⟨o, ho⟩ := hA.dead k x h
    rw [loc_at] at ho
    exact ⟨o, ho⟩
  have apart2 : ∀ k j x, S2 k x → j ∉ mutSlots ms rs → ¬ S j x := fun k j x h hj hs => by
    rcases g.nS k x h with h | h
    · exact notSc j x hj hs h
    · obtain ⟨u, hu, _⟩ := hh.own hs
      rw [h] at hu; cases hu
  refine ⟨F3, fun j x => (∃ k, ms[k]? = some true ∧ rs[k]? = some (R.b j) ∧ S2 k x) ∨ (j ∉ mutSlots ms rs ∧ S j x), ?_, ?_, h32, nt, h31⟩
  · refine ⟨e3H, by rw [pm_len]; exact hh.len, fun j o ho => ?_, fun i j x hi hj => ?_, fun j x hj => ?_, fun j x hj => ?_⟩
    · by_cases hj : j ∈ mutSlots ms rs
      · obtain ⟨k, hm, hr⟩ := mem_mut.mp hj
        have hk : k < rs.length := (List.getElem?_eq_some_iff.mp hr).1
        obtain ⟨v, r, hv, hr2⟩ := get_of_lt t.len hk
        have ek : r = .b j := by rw [hr] at hr2; cases hr2; rfl
        subst ek
        have is := t.is k _ v hr hv
        have ho' : os'[k]? = some (os'[k]'(by rw [l3]; exact hk)) := List.getElem?_eq_getElem (by rw [l3]; exact hk)
        generalize os'[k]'(by rw [l3]; exact hk) = o' at ho'
        have il : j < env.length := by rw [hh.len]; exact (List.getElem?_eq_some_iff.mp is.1).1
        rw [pm_at nd hm hr ho' il] at ho
        have ho2 := Option.some.inj ho
        rw [ho2] at ho'
        obtain ⟨v', hv', ro⟩ := hA.cell k o (by rw [loc_at]; exact ho')
        rw [List.getElem?_map, hv] at hv'
        cases hv'
        refine ⟨v, is.1, ?_⟩
        have e : (fun x => (∃ k, ms[k]? = some true ∧ rs[k]? = some (R.b j) ∧ S2 k x) ∨ (j ∉ mutSlots ms rs ∧ S j x)) = S2 k := funext fun x => propext ⟨fun h => by
          rcases h with ⟨k', h1, h2, h3⟩ | h
          · have := mut_uniq nd hm hr h1 h2
            subst this
            exact h3
          · exact absurd hj h.1, fun h => .inl ⟨k, hm, hr, h⟩⟩
        rw [e]
        rcases cl with hb | hc
        · have : F3 = F2 := funext fun a => h32 a fun ⟨i, hi, _⟩ => by rw [hb] at hi; cases hi
          rw [this]; exact ro
        · exact ro.cut (cleanMuts_get hc hm ho') h32 nt
      · rw [at_of_get (pm_other hj)] at ho
        obtain ⟨v, hv, ro⟩ := hh.cell j o ho
        refine ⟨v, hv, ?_⟩
        have e : (fun x => (∃ k, ms[k]? = some true ∧ rs[k]? = some (R.b j) ∧ S2 k x) ∨ (j ∉ mutSlots ms rs ∧ S j x)) = S j := funext fun x => propext ⟨fun h => by
          rcases h with ⟨k', h1, h2, h3⟩ | h
          · exact absurd (mem_mut.mpr ⟨k', h1, h2⟩) hj
          · exact h.2, fun h => .inr ⟨hj, h⟩⟩
        rw [e]
        exact ro.up e3 fun x u hx hu => g.fr x u hu (notSc j x hj hx)
    · rcases hi with ⟨k, h1, h2, h3⟩ | ⟨hi, hs⟩
      · rcases hj with ⟨k', h1', h2', h3'⟩ | ⟨hj, hs'⟩
        · have e := hA.dis k k' x h3 h3'
          subst e
          rw [h2] at h2'
          cases h2'
          rfl
        · exact absurd hs' (apart2 k j x h3 hj)
      · rcases hj with ⟨k', h1', h2', h3'⟩ | ⟨hj, hs'⟩
        · exact absurd hs (apart2 k' i x h3' hi)
        · exact hh.dis i j x hs hs'
    · by_cases hL : Lent ms rs S x
      · exact h31 x hL
      · rw [h32 x hL]
        rcases hj with ⟨k, h1, h2, h3⟩ | ⟨hj, hs⟩
        · exact hA.off k x h3
        · refine none_of_ne fun hn => ?_
          obtain ⟨u, hu, mu⟩ := hh.own hs
          rcases g.nF x hn with h | h | h | ⟨xs, h⟩
          · by_cases hG : Given ms Ts x
            · obtain ⟨k, _, hk⟩ := hG
              exact t.offS k j x hk hs
            · rw [hF2 x (fun z => z.elim hL hG)] at h
              exact h (hh.off j x hs)
          · exact notSc j x hj hs h
          · rw [h] at hu; cases hu
          · rw [h] at hu; cases hu; exact mu
    · rcases hj with ⟨k, h1, h2, h3⟩ | ⟨hj, hs⟩
      · obtain ⟨o', ho'⟩ := s2 k x h3
        have hk : k < rs.length := (List.getElem?_eq_some_iff.mp h2).1
        obtain ⟨v, r, hv, hr2⟩ := get_of_lt t.len hk
        have ek : r = .b j := by rw [h2] at hr2; cases hr2; rfl
        subst ek
        have is := t.is k _ v h2 hv
        exact ⟨o', pm_at nd h1 h2 ho' (by rw [hh.len]; exact (List.getElem?_eq_some_iff.mp is.1).1)⟩
      · rw [at_of_get (pm_other hj)]
        exact hh.dead j x hs
  · refine ⟨e3, fun x u hu hn => g.fr x u hu fun ⟨k, hk⟩ => hn (sc_sub hk), fun j x hj => ?_, fun x hx => ?_, fun x hx => ?_, fun j x hx hj => ?_, fun x hx => ?_⟩
    · rcases hj with ⟨k, h1, h2, h3⟩ | ⟨hj, hs⟩
      · rcases g.nS k x h3 with ⟨k', h⟩ | h
        · exact .inl (sc_sub h)
        · exact .inr h
      · exact .inl (.inl ⟨j, hs⟩)
    · rcases g.nT x hx with ⟨k', h⟩ | h
      · exact .inl (sc_sub h)
      · exact .inr h
    · by_cases hL : Lent ms rs S x
      · rw [h31 x hL] at hx; exact absurd rfl hx
      · rw [h32 x hL] at hx
        rcases g.nF x hx with h | ⟨k', h⟩ | h | h
        · by_cases hG : Given ms Ts x
          · obtain ⟨k, _, hk⟩ := hG
            exact .inr (.inl (.inr ⟨k, hk⟩))
          · rw [hF2 x (fun z => z.elim hL hG)] at h
            exact .inl h
        · exact .inr (.inl (sc_sub h))
        · exact .inr (.inr (.inl h))
        · exact .inr (.inr (.inr h))
    · rcases hj with ⟨k, h1, h2, h3⟩ | ⟨hj, hs⟩
      · exact g.dT k x hx h3
      · rcases g.nT x hx with h | h
        · exact notSc j x hj hs h
        · obtain ⟨u, hu, _⟩ := hh.own hs
          rw [h] at hu; cases hu
    · by_cases hL : Lent ms rs S x
      · exact h31 x hL
      · rw [h32 x hL]; exact g.oT x hx
theorem Thrown.cut {F3 : Hp} {R1 : Set1} {e : Exc} {cls : Value} {d : Option Addr} (th : Thrown c F2 H2 e cls d) (h : e.fs.all (fun p => p.2.imm) = true) (e3 : ∀ a, ¬ R1 a → F3 a = F2 a) (e31 : ∀ a, F2 a = none → F3 a = none) (nt : ∀ a, R1 a → ∃ u, F2 a = some u ∧ Mu u) : Thrown c F3 H2 e cls d := by
  obtain ⟨C, h1, h2, h3⟩ := th
  refine ⟨C, h1, h2, ?_⟩
  rcases h3 with h3 | ⟨a, fs, h3, h4, h5, h6, h7, h8⟩
  · exact .inl h3
  · refine .inr ⟨a, fs, h3, h4, e31 a h5, h6, h7, fun k f d hf hd => ?_⟩
    · have := List.all_eq_true.mp h d (List.mem_of_getElem? hd)
      exact (h8 k f d hf hd).cut this e3 nt
theorem call_ok {g : Fn} {res : Res R} {E : XK} (hh : Hold c F S env σ H) (t : Temps c F S σ H rs vs Ts) (e : callE ms g rs env = some res)
    (q : match res with
      | .ok r env' => ∀ F' S' T v H', Go F (fun x => un S x ∨ un Ts x) H F' S' T H' → Hold c F' S' env' σ H' → Kp env σ env' σ → IsR c F' H' σ r v T → Q v H'
      | .ex x env' => ∀ F' S' H' cls d, Go F (fun x => un S x ∨ un Ts x) H F' S' noT H' → Hold c F' S' env' σ H' → Kp env σ env' σ → Thrown c F' H' x cls d → E cls d H') : spV c ms g vs H Q E := by
  unfold callE at e
  split at e
  · rename_i os ea
    split at e
    · rename_i fr hg
      split at e
      · rename_i hok
        obtain ⟨ok, cl⟩ := hok
        cases e
        obtain ⟨F1, hF1, hF2⟩ := cut_region H F (fun x => Lent ms rs S x ∨ Given ms Ts x)
        obtain ⟨hA, eF⟩ := call_pre hh t ea ok hF1 hF2
        refine ⟨F1, _, os, hA, argO_ok ea, fr, hg, ?_⟩
        cases fr with
        | ret x os' =>
          intro F2 S2 T v H2 g2 hA2 ro
          have cl' : borSlots ms rs = [] ∨ (x.clean = true ∧ cleanMuts ms os' = true) := by
            simpa [FRes.clean] using cl
          obtain ⟨F3, S3, hh3, g3, h32, nt, h31⟩ := call_post hh t ea ok hF1 hF2 g2 hA2 (cl'.imp id And.right)
          refine q F3 S3 T v H2 g3 hh3 pm_kp ?_
          show RO c F3 H2 v x T
          rcases cl' with hb | hc
          · have : F3 = F2 := funext fun a => h32 a fun ⟨i, hi, _⟩ => by rw [hb] at hi; cases hi
            rw [this]; exact ro
          · exact ro.cut hc.1 h32 nt
        | ex x os' =>
          intro F2 S2 H2 cls d g2 hA2 th
          have cl' : borSlots ms rs = [] ∨ (x.fs.all (fun p => p.2.imm) = true ∧ cleanMuts ms os' = true) := by
            simpa [FRes.clean] using cl
          obtain ⟨F3, S3, hh3, g3, h32, nt, h31⟩ := call_post hh t ea ok hF1 hF2 g2 hA2 (cl'.imp id And.right)
          refine q F3 S3 H2 cls d g3 hh3 pm_kp ?_
          rcases cl' with hb | hc
          · have : F3 = F2 := funext fun a => h32 a fun ⟨i, hi, _⟩ => by rw [hb] at hi; cases hi
            rw [this]; exact th
          · refine th.cut hc.1 h32 (fun a hn => ?_) nt
            by_cases hL : Lent ms rs S a
            · exact h31 a hL
            · rw [h32 a hL]; exact hn
      · cases e
    · cases e
  · cases e
end
end VS
namespace VS
open PySem L2
variable {c : Cn} {W : WX} {F F' F1 F2 H H' H1 H2 : Hp} {S S' S1 S2 : Nat → Set1} {T T' T1 T2 : Set1} {σ σ' σ1 : L2.St} {r : R} {v : V} {env env' env1 : VEnv} {Q : VK} {fa fb fc : EV} {X : Cx}
theorem call_args {ms : List Bool} {g : Fn} {as : List EV} (h : tV c W (eCall ms g as) σ H Q) : tVA c W (eArgs as) σ H (fun vs H1 => spV c ms g vs H1 Q (WE W σ)) := by
  obtain ⟨F, S, env, hh, res, e, q⟩ := h
  rcases bind_some e with ⟨rs, e1, h1, e⟩ | ⟨x, e1, h1, rfl⟩
  · refine ⟨F, S, env, hh, _, h1, fun F1 S1 Ts vs H1 g1 hh1 k1 t1 => ?_⟩
    refine call_ok hh1 t1 e ?_
    cases res with
    | ok r env' => exact fun F2 S2 T v H2 g2 hh2 k2 is2 => q F2 S2 T v H2 (g1.trans g2 fun x h => h) hh2 (k1.trans k2) is2
    | ex x env' => exact fun F2 S2 H2 cls d g2 hh2 k2 th => q F2 S2 H2 cls d (g1.trans g2 fun x h => h) hh2 (k1.trans k2) th
  · exact ⟨F, S, env, hh, _, h1, q⟩
theorem v_call {ms : List Bool} {g : Fn} {as : List EV} {k : Nat} {f : Addr} {fd : FuncData} {ps : List Str} {x : Str} {p pos : Pos} {e : Expr} {es : List Expr} (G : FnOk X.prog X.w X.K X.mg X.base (CX X.prog X.w) k f fd ps (spV c ms g)) (hr : Room k X.A) (hg : Gl X x) (hm : X.mg x = some (.ref f))
    (hk : PySem.W.keepIn X.K (.ref f) = true) (hb : Binds X.K fd ps []) (tk : Takes X W) (ha : PA X (e :: es) (tVA c W (eArgs as))) (hd : (x == ("__debug__" : Str)) = false := by decide)
    (he : starEach (e :: es) X.env = (false, eval e X.env) :: starEach es X.env := by rfl) (hpl : (backTo pos (starEach es X.env)).any (·.1) = false := by rfl) : PE X (.Call (.Name x p) (e :: es) [] pos) (tV c W (eCall ms g as)) :=
  PE_imp (pe_callS G hr hg hm hk hb (fun σ => passAt tk σ) ha hd he hpl) fun σ H Q h => call_args h
theorem takes0' {X : Cx} : Takes X W0 := fun u s' ⟨_, _, _, _, _, _, _, _, _, _, _, _, _, _, _, _, h⟩ => h.elim
theorem v_bltn {id : String} {rr : List V → Hp → VK → Prop} {g : List R → VEnv → Option (R × VEnv)} {as : List EV} {x : Str} {p pos : Pos} {e : Expr} {es : List Expr} (hop : Op c rr g) (hc : CallR X (.builtin id) rr) (hg : Gl X x) (hm : X.mg x = none) (hv : bootBuiltins x = some (.builtin id)) (ha : PA X (e :: es) (tVA c W (eArgs as)))
    (hn : x ≠ "__name__" := by decide) (hdb : (x == ("__debug__" : Str)) = false := by decide) (he : starEach (e :: es) X.env = (false, eval e X.env) :: starEach es X.env := by rfl) (hpl : (backTo pos (starEach es X.env)).any (·.1) = false := by rfl) :
    PE X (.Call (.Name x p) (e :: es) [] pos) (tV c W (eOp g (eArgs as))) := PE_imp (pe_callB hc hg hm hv ha hn hdb he hpl) fun σ H Q h => opN_ok hop h
theorem v_type {id : String} {rr : List V → Hp → VK → Prop} {g : List R → VEnv → Option (R × VEnv)} {as : List EV} {x : Str} {p pos : Pos} {e : Expr} {es : List Expr} (hop : Op c rr g) (hc : CallR X (.type id) rr) (hg : Gl X x) (hm : X.mg x = none) (hv : bootBuiltins x = some (.type id)) (ha : PA X (e :: es) (tVA c W (eArgs as)))
    (hn : x ≠ "__name__" := by decide) (hdb : (x == ("__debug__" : Str)) = false := by decide) (he : starEach (e :: es) X.env = (false, eval e X.env) :: starEach es X.env := by rfl) (hpl : (backTo pos (starEach es X.env)).any (·.1) = false := by rfl) :
    PE X (.Call (.Name x p) (e :: es) [] pos) (tV c W (eOp g (eArgs as))) := PE_imp (pe_callTy hc hg hm hv ha hn hdb he hpl) fun σ H Q h => opN_ok hop h
theorem v_bin {op : Operator} {r : R2} {g : List R → VEnv → Option (R × VEnv)} {a b : Expr} {pos : Pos} (hop : Op c (R2L r) g) (ho : OpR X (binaryOp op) r) (ha : PE X a (tV c W fa)) (hb : PE X b (tV c W fb)) : PE X (.BinOp a op b pos) (tV c W (eOp2 g fa fb)) :=
  PE_imp (pe_op ho ha hb) fun σ H Q h => op2_ok hop h
theorem v_cmp {op : CmpOp} {r : R2} {g : List R → VEnv → Option (R × VEnv)} {a b : Expr} {pos : Pos} (hop : Op c (R2L r) g) (ho : OpR X (compareOp op) r) (ha : PE X a (tV c W fa)) (hb : PE X b (tV c W fb)) (hm : behindInMarks op b = false) : PE X (.Compare a [op] [b] pos) (tV c W (eOp2 g fa fb)) :=
  PE_imp (pe_cmpR ho ha hb hm) fun σ H Q h => op2_ok hop h
theorem v_cmpT {op : CmpOp} {r : R2} {g : List R → VEnv → Option (R × VEnv)} {a b : Expr} {pos : Pos} (hop : Op c (R2L r) g) (ho : OpR X (compareOp op) r) (ha : PE X a (tV c W fa)) (hb : PE X b (tV c W fb)) (hm : behindInMarks op b = false) : PT X (.Compare a [op] [b] pos) (tVT c W (eTest (eOp2 g fa fb))) :=
  PT_imp (pt_cmpR ho ha hb hm) fun σ H Q h => op2_ok hop (test_of h)
theorem r2l_or {r1 r2 : R2} {g1 g2 : List R → VEnv → Option (R × VEnv)} (h1 : Op c (R2L r1) g1) (h2 : Op c (R2L r2) g2) : Op c (R2L fun x y H Q => r1 x y H Q ∨ r2 x y H Q) (opOr g1 g2) :=
  op_mono (op_or h1 h2) fun vs H Q h => by
    rcases h with ⟨x, y, e, q⟩ | ⟨x, y, e, q⟩
    · exact ⟨x, y, e, .inl q⟩
    · exact ⟨x, y, e, .inr q⟩
theorem v_add {a b : Expr} {pos : Pos} (hK : c.K = X.K) (ha : PE X a (tV c W fa)) (hb : PE X b (tV c W fb)) : PE X (.BinOp a .Add b pos) (tV c W (eOp2 gAdd fa fb)) :=
  v_bin (r2l_or op_addS op_catO) (OpR_or (OpR_or op_add op_add_str) (OpR_or op_cat (by rw [hK]; exact op_catA))) ha hb
theorem v_sub {a b : Expr} {pos : Pos} (ha : PE X a (tV c W fa)) (hb : PE X b (tV c W fb)) : PE X (.BinOp a .Sub b pos) (tV c W (eOp2 (opS fSub) fa fb)) := v_bin op_subS op_sub ha hb
theorem v_mul {a b : Expr} {pos : Pos} (ha : PE X a (tV c W fa)) (hb : PE X b (tV c W fb)) : PE X (.BinOp a .Mult b pos) (tV c W (eOp2 gMul fa fb)) := v_bin (r2l_or op_mulS op_repO) (OpR_or op_mul op_rep) ha hb
theorem v_div {a b : Expr} {pos : Pos} (ha : PE X a (tV c W fa)) (hb : PE X b (tV c W fb)) : PE X (.BinOp a .FloorDiv b pos) (tV c W (eOp2 (opS fDiv) fa fb)) := v_bin op_divS op_fdivN ha hb
theorem v_mod {a b : Expr} {pos : Pos} (ha : PE X a (tV c W fa)) (hb : PE X b (tV c W fb)) : PE X (.BinOp a .Mod b pos) (tV c W (eOp2 (opS fMod) fa fb)) := v_bin op_modS op_modN ha hb
theorem v_pow {a b : Expr} {pos : Pos} (ha : PE X a (tV c W fa)) (hb : PE X b (tV c W fb)) : PE X (.BinOp a .Pow b pos) (tV c W (eOp2 (opS fPow) fa fb)) := v_bin op_powS op_pow ha hb
theorem v_neg {a : Expr} {pos : Pos} (ha : PE X a (tV c W fa)) : PE X (.UnaryOp .USub a pos) (tV c W (eOp1 (opS fNeg) fa)) := PE_imp (pe_un un_neg ha) fun σ H Q h => op1_ok op_negS h
theorem v_ix {a b : Expr} {pos : Pos} (hK : c.K = X.K) (ha : PE X a (tV c W fa)) (hb : PE X b (tV c W fb)) (hp : PlainIx b) : PE X (.Subscript a b pos) (tV c W (eOp2 opIx fa fb)) :=
  PE_imp (pe_ix ix_seq ha hb hp) fun σ H Q h => op2_ok (by rw [← hK]; exact op_ixO) h
theorem any_toPy {x : D} : ∀ {ds : List D}, x.canE = true → canEs ds = true → ((toPys ds).any fun z => PyData.eqv z (toPy x)) = ds.any fun z => eqD z x
  | [], _, _ => rfl
  | d :: ds, hx, h => by
    simp only [canEs, Bool.and_eq_true] at h
    simp only [toPys, List.any_cons, eqv_toPy d x h.1 hx, any_toPy hx h.2]
def rInS (neg : Bool) : R2 := fun x y H Q => ∃ (k : Nat) (z : Str), x = .str ⟨#[k]⟩ ∧ y = .str z ∧ Q (.bl (if neg then !decide (k ∈ z.cps.toList) else decide (k ∈ z.cps.toList))) H
def rInL (K : PySem.W.Frag) (neg : Bool) : R2 := fun x y H Q => ∃ d ds, Dp K H x d ∧ Dp K H y (.list ds) ∧ SeqAt.shaped d = true ∧ SeqAt.shaped (.list ds) = true ∧ Q (.bl (if neg then !ds.any fun z => PyData.eqv z d else ds.any fun z => PyData.eqv z d)) H
theorem in_core {neg : Bool} (H : Hp) (vs : List V) (ds : List D) (b : Bool) (Q : VK) (hl : vs.length = ds.length) (hr : ∀ (k : Nat) v d, vs[k]? = some v → ds[k]? = some d → Rep c H v d) (e : fInB ds = some b) (q : Q (.bl (if neg then !b else b)) H) : R2L (fun x y H Q => rInS neg x y H Q ∨ rInL c.K neg x y H Q) vs H Q := by
  unfold fInB at e
  split at e
  · rename_i k s
    cases e
    obtain ⟨v1, v2, rfl, r1, r2⟩ := rep2 hl hr
    cases r1
    cases r2
    exact ⟨_, _, rfl, .inl ⟨k, _, rfl, rfl, q⟩⟩
  · split at e
    · rename_i x ds1 _ hz
      cases e
      simp only [Bool.and_eq_true] at hz
      obtain ⟨v1, v2, rfl, r1, r2⟩ := rep2 hl hr
      have h2 := okE_can hz.2
      have d2 := r2.dp h2
      have s2 := okE_sh hz.2
      simp only [D.canE] at h2
      simp only [toPy] at d2 s2
      refine ⟨_, _, rfl, .inr ⟨_, _, r1.dp (okE_can hz.1), d2, okE_sh hz.1, s2, ?_⟩⟩
      rw [any_toPy (okE_can hz.1) h2]
      exact q
    · cases e
  · cases e
theorem op_inS : Op c (R2L (fun x y H Q => rInS false x y H Q ∨ rInL c.K false x y H Q)) (opS fIn) := op_scal fun H vs ds d Q hl hr e => by
  obtain ⟨b, hb, rfl⟩ := Option.map_eq_some_iff.mp e
  exact ⟨_, rfl, fun q => in_core H vs ds b Q hl hr hb q⟩
theorem op_notInS : Op c (R2L (fun x y H Q => rInS true x y H Q ∨ rInL c.K true x y H Q)) (opS fNotIn) := op_scal fun H vs ds d Q hl hr e => by
  obtain ⟨b, hb, rfl⟩ := Option.map_eq_some_iff.mp e
  exact ⟨_, rfl, fun q => in_core H vs ds b Q hl hr hb q⟩
theorem opr_in (hu : X.A.units + 65 < cLine) : OpR X (compareOp .In) (fun x y H Q => rInS false x y H Q ∨ rInL X.K false x y H Q) := OpR_or op_in_sign (op_inD hu)
theorem opr_notIn (hu : X.A.units + 65 < cLine) : OpR X (compareOp .NotIn) (fun x y H Q => rInS true x y H Q ∨ rInL X.K true x y H Q) := OpR_or op_notIn_sign (op_notInD hu)
theorem recv_ok {chk : R → VEnv → Bool} {as : List EV} {g : List R → VEnv → Option (R × VEnv)} {rr : List V → Hp → VK → Prop} {P : V → Hp → Prop} (ho : Op c rr g) (hc : ∀ F S env H r v T, Hold c F S env σ H → IsR c F H σ r v T → chk r env = true → P v H) (h : tV c W (eRecv chk fa as g) σ H Q) :
    tV c W fa σ H (fun x H1 => P x H1 ∧ tVA c W (eArgs as) σ H1 fun xs H2 => rr (x :: xs) H2 Q) := by
  obtain ⟨F, S, env, hh, res, e, q⟩ := h
  rcases bind_some e with ⟨r, e1, h1, e⟩ | ⟨x, e1, h1, rfl⟩
  · refine ⟨F, S, env, hh, _, h1, fun F1 S1 T1 v1 H1 g1 hh1 k1 is1 => ?_⟩
    have t1 : Temps c F1 S1 σ H1 [r] [v1] _ := Temps.one is1 g1.dT g1.oT
    split at e
    · rename_i hk
      refine ⟨hc F1 S1 e1 H1 r v1 T1 hh1 is1 hk, ?_⟩
      rcases bind_some e with ⟨rs, e2, h2, e⟩ | ⟨x, e2, h2, rfl⟩
      · refine ⟨F1, S1, e1, hh1, _, h2, fun F2 S2 Ts vs H2 g2 hh2 k2 t2 => ?_⟩
        obtain ⟨t1', d12⟩ := t1.go g2 t1.offU
        unfold M.lift at e
        obtain ⟨⟨r', e3⟩, hg, e⟩ := Option.map_eq_some_iff.mp e
        cases e
        refine ho F2 S2 e2 σ H2 (r :: rs) (v1 :: vs) _ r' e3 Q hh2 (t1'.cat t2 fun i j x hi hj => d12 i x hi ⟨j, hj⟩) hg fun F3 S3 T3 v3 H3 g3 hh3 k3 is3 => ?_
        refine q F3 S3 T3 v3 H3 ?_ hh3 (k1.trans (k2.trans k3)) is3
        have g12 := g1.add (T' := fun x => un (catT [r].length (fun k x => k = 0 ∧ T1 x) Ts) x) g2 (fun x h => .inl h) (fun x ⟨k, hx⟩ => ?_) (fun x hx => t1'.offF 0 x ⟨rfl, hx⟩) (fun i x hx => t1'.offS 0 i x ⟨rfl, hx⟩)
        · exact g12.trans g3 fun x h => h
        · unfold catT at hx
          split at hx
          · exact .inl hx.2
          · exact .inr ⟨_, hx⟩
      · exact ⟨F1, S1, e1, hh1, _, h2, EndX_go g1 k1 q⟩
    · cases e
  · exact ⟨F, S, env, hh, _, h1, q⟩
theorem isStr_ok {F : Hp} {S : Nat → Set1} {env : VEnv} {H : Hp} {r : R} {v : V} {T : Set1} (_ : Hold c F S env σ H) (is : IsR c F H σ r v T) (h : isStrR r env = true) : ∃ a, v = .str a := by
  unfold isStrR at h
  split at h
  · cases is with
    | val rp _ => cases rp; exact ⟨_, rfl⟩
  · cases h
theorem ofArr (y : Str) : y = ⟨(TL.tl y).toArray⟩ := by
  cases y
  rfl
theorem joinD_eq (s : List Nat) : ∀ ys : List (List Nat), TL.joinL s ys = joinD s ys
  | [] => rfl
  | [_] => rfl
  | p :: q :: r => by simp only [TL.joinL, joinD, joinD_eq s (q :: r)]
theorem txt_join (s : List Nat) (ys : List (List Nat)) : Txt.join ⟨s.toArray⟩ (ys.map fun y => (⟨y.toArray⟩ : Str)) = ⟨(joinD s ys).toArray⟩ := by
  rw [TL.join_eq, ofArr (Str.join _ _), TL.tl_join]
  congr 1
  rw [← joinD_eq]
  congr 2
  rw [List.map_map]
  conv => rhs; rw [← List.map_id ys]
  apply List.map_congr_left
  intro y _
  rfl
theorem op_joinS : Op c (fun xs H Q => ∃ x ys', xs = [x, ys'] ∧ ∃ a p, ∃ ys : List Str, x = .str a ∧ [ys'] = [.ref p] ∧ (SqL c.K H p (ys.map V.str) ∨ SqT c.K H p (ys.map V.str)) ∧
      (ys.map (·.length)).sum + ys.length * a.length ≤ 16777216 ∧ Q (.str (Txt.join a ys)) H) (opS fJoin) := op_scal fun H vs ds d Q hl hr e => by
  have sz : ∀ (s : List Nat) (ys : List (List Nat)), (ys.map List.length).sum + ys.length * s.length ≤ maxLen → ((ys.map fun y => (⟨y.toArray⟩ : Str)).map (·.length)).sum + (ys.map fun y => (⟨y.toArray⟩ : Str)).length * (⟨s.toArray⟩ : Str).length ≤ 16777216 := by
    intro s ys h
    rw [List.map_map, List.length_map, sv_len]
    have : (ys.map ((fun x : Str => x.length) ∘ fun y => (⟨y.toArray⟩ : Str))) = ys.map List.length := by
      apply List.map_congr_left
      intro y _
      exact sv_len y
    rw [this]
    exact Nat.le_trans h (by unfold maxLen; decide)
  unfold fJoin at e
  split at e
  · split at e
    · rename_i ys hy
      split at e
      · rename_i hz
        cases e
        have := allStr_spec hy
        subst this
        obtain ⟨v1, v2, rfl, r1, r2⟩ := rep2 hl hr
        cases r1
        cases r2 with
        | lst h l hr =>
          have := vals_of (g := D.str) (gv := fun y => V.str ⟨y.toArray⟩) (fun H v a r => rep_str r) l hr
          subst this
          refine ⟨_, rfl, fun q => ⟨_, _, rfl, _, _, ys.map fun y => (⟨y.toArray⟩ : Str), rfl, rfl, .inl (.inl (.inl (by rw [List.map_map]; exact h))), sz _ _ hz, ?_⟩⟩
          rw [txt_join]
          exact q
      · cases e
    · cases e
  · split at e
    · rename_i ys hy
      split at e
      · rename_i hz
        cases e
        have := allStr_spec hy
        subst this
        obtain ⟨v1, v2, rfl, r1, r2⟩ := rep2 hl hr
        cases r1
        cases r2 with
        | tup h l hr =>
          have := vals_of (g := D.str) (gv := fun y => V.str ⟨y.toArray⟩) (fun H v a r => rep_str r) l hr
          subst this
          refine ⟨_, rfl, fun q => ⟨_, _, rfl, _, _, ys.map fun y => (⟨y.toArray⟩ : Str), rfl, rfl, .inr (.inl (.inl (by rw [List.map_map]; exact h))), sz _ _ hz, ?_⟩⟩
          rw [txt_join]
          exact q
      · cases e
    · cases e
  · cases e
theorem v_join {o e : Expr} {apos pos : Pos} (hK : c.K = X.K) (ho : PE X o (tV c W fa)) (he : PE X e (tV c W fb)) (hs : starEach [e] X.env = [(false, eval e X.env)] := by rfl) (hbase : attributeBase o "join" X.env (eval o X.env) = eval o X.env := by rfl) (hline : (apos.endLine == pos.line) = true := by rfl) :
    PE X (.Call (.Attribute o "join" apos) [e] [] pos) (tV c W (eRecv isStrR fa [fb] (opS fJoin))) :=
  PE_imp (pe_join ho he hs hbase hline) fun σ H Q h => by
    refine tV_mono (recv_ok op_joinS (P := fun v H => ∃ a, v = .str a) (fun F S env H r v T hh is h => isStr_ok hh is h) h) fun x H1 ⟨hx, h1⟩ => ⟨hx, ?_⟩
    refine tV_mono (args_cons h1) fun y H2 h2 => ?_
    obtain ⟨x', y', e, q⟩ := args_nil h2
    cases e
    rw [← hK]
    exact q
end VS
namespace VS
open PySem L2
variable {c : Cn} {W : WX} {F F' F1 F2 H H' H1 H2 : Hp} {S S' S1 S2 : Nat → Set1} {T T' T1 T2 : Set1} {σ σ' σ1 : L2.St} {r : R} {v : V} {env env' env1 : VEnv} {Q : VK} {fa fb fc : EV} {X : Cx}
theorem vs_cons {st : Stmt} {rest : List Stmt} {f g : SV1} (h : PS X st (tS c W f)) (hr : PSs X rest (tS c W g)) : PSs X (st :: rest) (tS c W (sSeq f g)) := PSs_imp (pss_cons h hr) fun D σ H h => s_seq h
theorem vs_one {st : Stmt} {f : SV1} (h : PS X st (tS c W f)) : PSs X [st] (tS c W f) := pss_one h
theorem vs_nil : PSs X [] (tS c W sNext) := PSs_imp pss_nil fun D σ H h => s_next h
theorem vs_pass {pos : Pos} : PS X (.Pass pos) (tS c W sNext) := PS_imp ps_pass fun D σ H h => s_next h
theorem vs_break {pos : Pos} : PS X (.Break pos) (tS c W sBreak) := PS_imp ps_break fun D σ H h => s_break h
theorem vs_cont {pos : Pos} : PS X (.Continue pos) (tS c W sCont) := PS_imp ps_continue fun D σ H h => s_cont h
theorem vs_expr {e : Expr} {pos : Pos} (he : PE X e (tV c W fa)) (hs : swapsWith e none pos.line X.env = pure false := by rfl) : PS X (.Expr e pos) (tS c W (sDrop fa)) := PS_imp (ps_expr he hs) fun D σ H h => s_drop h
theorem vs_ret {e : Expr} {pos : Pos} (he : PE X e (tV c W fa)) : PS X (.Return (some e) pos) (tS c W (sRet fa)) := PS_imp (ps_ret he) fun D σ H h => s_ret h
theorem vs_retN {pos : Pos} : PS X (.Return none pos) (tS c W sRetN) := PS_imp ps_retN fun D σ H h => s_retN h
theorem vs_if {e : Expr} {a b : List Stmt} {m : M Bool} {f g : SV1} {pos : Pos} (hc : PT X e (tVT c W m)) (ha : PSs X a (tS c W f)) (hb : PSs X b (tS c W g)) : PS X (.If e a b pos) (tS c W (sIf m f g)) := PS_imp (ps_if hc ha hb) fun D σ H h => s_if h
theorem vs_for {tg iter : Expr} {body : List Stmt} {it : M (List D)} {t : Tg} {g : TG} {f : SV1} {pos : Pos} (hp : PassesOwn (model X.prog X.w) X.A X.env X.xe) (hc : X.calm = true) (hi : PI X tg iter (tI c W it)) (hg : PG X tg g) (ht : TgOk c t g) (hb : PSs X body (tS c W f))
    (hs : ∀ x, foldedSetIterable iter X.env x = pure x := by intro _; rfl) : PS X (.For tg iter body [] pos) (tS c W (sFor it t f)) := PS_imp (ps_for hp hc hi hg hb hs) fun D σ H h => s_for ht h
theorem vs_while {e : Expr} {body : List Stmt} {m : M Bool} {f : SV1} {pos : Pos} (hp : PassesOwn (model X.prog X.w) X.A X.env X.xe) (hc : PT X e (tVT c W m)) (hb : PSs X body (tS c W f)) : PS X (.While e body [] pos) (tS c W (sWhile m f)) := PS_imp (ps_while hp hc hb) fun D σ H h => s_while h
theorem vs_set {i : Nat} {x : Str} {e : Expr} {pos pos' : Pos} (nd : X.N.Nodup) (hN : X.N[i]? = some x) (hx : Loc X.env.scope x) (he : PE X e (tV c W fa)) (hs : swapsWith e (some (.Name x pos')) pos.line X.env = pure false := by rfl) (hf : X.fn x = true ∨ X.env.scope.names.lookup x = some .local := by first | exact .inl rfl | exact .inr rfl) :
    PS X (.Assign [.Name x pos'] e pos) (tS c W (sAsg (.name i) fa)) := PS_imp (ps_set nd hN hx he hs hf) fun D σ H h => s_asg tg_name h
theorem vs_asg {t : Tg} {g : TG} {tg e : Expr} {pos : Pos} (he : PE X e (tV c W fa)) (hg : PG X tg g) (ht : TgOk c t g) (h1 : swapsWithSole [tg] e pos.line X.env = pure false := by rfl) (h2 : swappedStores [tg] e X.env = pure none := by rfl)
    (h3 : (assignEach [tg] X.env).map (·.2) = [assign tg X.env] := by rfl) : PS X (.Assign [tg] e pos) (tS c W (sAsg t fa)) := PS_imp (ps_asg he hg h1 h2 h3) fun D σ H h => s_asg ht h
theorem vs_setIx {i : Nat} {o j e : Expr} {pos pos' : Pos} (ho : PE X o (tVar i)) (hj : PE X j (tV c W fb)) (he : PE X e (tV c W fa)) (hg : ∀ to ti : TE, PE X o to → PE X j ti → PG X (.Subscript o j pos') (gSub to ti rSetL)) (h1 : swapsWithSole [.Subscript o j pos'] e pos.line X.env = pure false := by rfl) (h2 : swappedStores [.Subscript o j pos'] e X.env = pure none := by rfl)
    (h3 : (assignEach [.Subscript o j pos'] X.env).map (·.2) = [assign (.Subscript o j pos') X.env] := by rfl) : PS X (.Assign [.Subscript o j pos'] e pos) (tS c W (sSetIx i fa fb)) := PS_imp (ps_asg he (hg _ _ ho hj) h1 h2 h3) fun D σ H h => s_setIx h
theorem vs_aug {i : Nat} {x : Str} {e : Expr} {op : Operator} {ti : TIp} {f : List D → Option D} {pos pos' : Pos} (hf : AugOk c f ti) (nd : X.N.Nodup) (hN : X.N[i]? = some x) (hx : Loc X.env.scope x) (he : PE X e (tV c W fa)) (hp : PIp X op ti) (hfn : X.fn x = true ∨ X.env.scope.names.lookup x = some .local := by first | exact .inl rfl | exact .inr rfl) :
    PS X (.AugAssign (.Name x pos') op e pos) (tS c W (sAug i f fa)) := PS_imp (ps_aug nd hN hx he hp hfn) fun D σ H h => s_aug hf h
theorem vs_augIx {i : Nat} {o j e : Expr} {op : Operator} {ti : TIp} {f : List D → Option D} {pos pos' : Pos} (hf : AugOk c f ti) (ho : PE X o (tVar i)) (hj : PE X j (tV c W fa)) (he : PE X e (tV c W fb)) (hp : PIp X op ti)
    (ha : ∀ ov iv new, augStore j ov iv new = (do holding [new, ov, iv] (setItem ov iv new); release [new, ov, iv] []; pure .next) := by intros; rfl) : PS X (.AugAssign (.Subscript o j pos') op e pos) (tS c W (sAugIx i fa f fb)) := PS_imp (ps_augS ho hj get_list he hp set_list ha) fun D σ H h => s_augIx hf h
theorem v_append {i : Nat} {o e : Expr} {apos cpos : Pos} (hK : c.K = X.K) (ho : PE X o (tVar i)) (he : PA X [e] (tVA c W (eArgs [fa])))
    (hbase : attributeBase o "append" X.env (eval o X.env) = eval o X.env := by rfl)
    (hfew : ((backTo cpos (starEach [e] X.env)).all (fun x => !x.1) && (backToKw cpos (keywordEach [] X.env)).all (fun x => x.1.isSome) && decide ([e].length + ([] : List Keyword).length + (if ([] : List Keyword).isEmpty then 0 else 1) < 30)) = true := by rfl)
    (hline : (apos.endLine == cpos.line) = true := by rfl) (hs : starEach [e] X.env = (false, eval e X.env) :: starEach [] X.env := by rfl) (hplain : (backTo cpos (starEach [] X.env)).any (·.1) = false := by rfl) :
    PE X (.Call (.Attribute o "append" apos) [e] [] cpos) (tV c W (eLm i (eArgs [fa]) (lmAppend i))) :=
  PE_imp (pe_bm PySem.F.plainAttrs_list PySem.F.slot_list_append PySem.F.type_list_append mt_append ho he hbase hfew hline hs hplain) fun σ H Q h => by
    obtain ⟨v, hv, ty, h1⟩ := lm_args om_append h
    rw [hK] at ty
    exact ⟨v, hv, ty, h1⟩
theorem v_clear {i : Nat} {o : Expr} {apos cpos : Pos} (hK : c.K = X.K) (ho : PE X o (tVar i)) (hbase : attributeBase o "clear" X.env (eval o X.env) = eval o X.env := by rfl) (hline : (apos.endLine == cpos.line) = true := by rfl) :
    PE X (.Call (.Attribute o "clear" apos) [] [] cpos) (tV c W (eLm i (eArgs []) (lmClear i))) :=
  PE_imp (pe_bm0 PySem.F.plainAttrs_list PySem.F.slot_list_clear PySem.F.type_list_clear mt_clear ho hbase hline) fun σ H Q h => by
    obtain ⟨v, hv, ty, h1⟩ := lm_args om_clear h
    rw [hK] at ty
    exact ⟨v, hv, ty, args_nil h1⟩
theorem v_pop {i : Nat} {o : Expr} {apos cpos : Pos} (hK : c.K = X.K) (ho : PE X o (tVar i)) (hbase : attributeBase o "pop" X.env (eval o X.env) = eval o X.env := by rfl) (hline : (apos.endLine == cpos.line) = true := by rfl) :
    PE X (.Call (.Attribute o "pop" apos) [] [] cpos) (tV c W (eLm i (eArgs []) (lmPop i))) :=
  PE_imp (pe_bm0 PySem.F.plainAttrs_list PySem.F.slot_list_pop PySem.F.type_list_pop mt_pop ho hbase hline) fun σ H Q h => by
    obtain ⟨v, hv, ty, h1⟩ := lm_args om_pop h
    rw [hK] at ty
    exact ⟨v, hv, ty, args_nil h1⟩
theorem v_comp {elt tg iter : Expr} {ifs : List Expr} {scope : Scope} {own : List (Str × Nat)} {pos : Pos} {it : M (List D)} {t : Tg} {g : TG} {m : M Bool} {is : List Nat} (eo : own.map (·.2) = is) (hc : X.calm = true) (hN : X.N.Nodup) (hi : PI X tg iter (tI c W it)) (ok : BlkOk X.N X.env.scope scope own) (ht : TgOk c t g) (hsl : ∀ j ∈ t.slots, j ∈ is)
    (hg : ∀ (s : Shared) (H : Hp) (C : Addr) (cl : List (Str × Addr)) (fp : List Addr), PG (X.blk s H scope (compEnvC scope cl C X.env) fp) tg g) (hm : ∀ (s : Shared) (H : Hp) (C : Addr) (cl : List (Str × Addr)) (fp : List Addr), PTs (X.blk s H scope (compEnvC scope cl C X.env) fp) ifs (tVT c W0 m))
    (he : ∀ (s : Shared) (H : Hp) (C : Addr) (cl : List (Str × Addr)) (fp : List Addr), PE (X.blk s H scope (compEnvC scope cl C X.env) fp) elt (tV c W0 fa)) (hs : ∀ x, foldedSetIterable iter X.env x = pure x := by intro _; rfl) :
    PE X (.ListComp elt [⟨tg, iter, ifs, 0⟩] scope pos) (tV c W (eComp is it t m fa)) := PE_imp (pe_lc hc hN hi ok hg hm he hs) fun σ H Q h => by rw [eo]; exact c_comp ht hsl h
theorem vs_setComp {i : Nat} {y : Str} {py : Pos} {elt tg iter : Expr} {ifs : List Expr} {scope : Scope} {own : List (Str × Nat)} {pos spos : Pos} {it : M (List D)} {t : Tg} {g : TG} {m : M Bool} {is : List Nat} (eo : own.map (·.2) = is) (hc : X.calm = true) (hN : X.N.Nodup) (hy : X.N[i]? = some y) (hyl : X.env.scope.names.lookup y = some .local)
    (hsw : swapsWith (.ListComp elt [⟨tg, iter, ifs, 0⟩] scope pos) (some (.Name y py)) spos.line X.env = pure true) (hi : PI X tg iter (tI c W it)) (ok : BlkOk X.N X.env.scope scope own) (ht : TgOk c t g) (hsl : ∀ j ∈ t.slots, j ∈ is)
    (hg : ∀ (s : Shared) (H : Hp) (C : Addr) (cl : List (Str × Addr)) (fp : List Addr), PG (X.blk s H scope (compEnvC scope cl C X.env) fp) tg g) (hm : ∀ (s : Shared) (H : Hp) (C : Addr) (cl : List (Str × Addr)) (fp : List Addr), PTs (X.blk s H scope (compEnvC scope cl C X.env) fp) ifs (tVT c W0 m))
    (he : ∀ (s : Shared) (H : Hp) (C : Addr) (cl : List (Str × Addr)) (fp : List Addr), PE (X.blk s H scope (compEnvC scope cl C X.env) fp) elt (tV c W0 fa)) (hs : ∀ x, foldedSetIterable iter X.env x = pure x := by intro _; rfl) :
    PS X (.Assign [.Name y py] (.ListComp elt [⟨tg, iter, ifs, 0⟩] scope pos) spos) (tS c W (sAsg (.name i) (eComp is it t m fa))) := PS_imp (ps_setLc hc hN hy hyl hsw hi ok hg hm he hs) fun D σ H h => by
      have := s_asg (tg_name (c := c) (i := i)) h
      rw [eo]
      exact c_comp ht hsl this
theorem pts_yes : PTs X [] (tVT c W yes) := by
  have h : PTs X [] tYes := pts_nil
  refine ⟨fun pins s σ H Q I q => h.run pins s σ H Q I ?_⟩
  obtain ⟨F, S, env, hh, res, e, q⟩ := q
  cases e
  exact q F S H Go.rflS hh Kp.rfl'
theorem bootTy (t : Ty) : bootBuiltins (Str.ofString (tyN t)) = some (.type (tyN t)) := by cases t <;> decide +kernel
theorem v_isT {t : Ty} {e : Expr} {p p1 pos : Pos} (hK : c.K = X.K) (hg : Gl X "isinstance") (hm : X.mg "isinstance" = none) (hg1 : Gl X (Str.ofString (tyN t))) (hm1 : X.mg (Str.ofString (tyN t)) = none) (ha : PE X e (tV c W fa))
    (he : starEach [e, .Name (Str.ofString (tyN t)) p1] X.env = (false, eval e X.env) :: starEach [.Name (Str.ofString (tyN t)) p1] X.env := by rfl) (he1 : starEach [.Name (Str.ofString (tyN t)) p1] X.env = (false, eval (.Name (Str.ofString (tyN t)) p1) X.env) :: starEach [] X.env := by rfl) (hpl : (backTo pos (starEach [.Name (Str.ofString (tyN t)) p1] X.env)).any (·.1) = false := by rfl) :
    PE X (.Call (.Name "isinstance" p) [e, .Name (Str.ofString (tyN t)) p1] [] pos) (tV c W (eOp1 (opS (fIsT t)) fa)) := by
  have hb : PE X (.Name (Str.ofString (tyN t)) p1) (tC (.ty (tyN t))) := pe_bltn hg1 hm1 (bootTy t) rfl (by cases t <;> decide) (by cases t <;> decide)
  refine PE_imp (pe_callB (call_isi) hg hm (by decide +kernel) (pa_cons ha (pa_cons hb pa_nil he1) he) (by decide) (by decide) he hpl) fun σ H Q h => ?_
  refine tV_mono (args_cons (op_args op_isT h)) fun x H1 h1 => ?_
  obtain ⟨x', e, q⟩ := args_nil h1
  cases e
  rw [hK] at q
  exact q
theorem v_fn {P : Program} {w : World} {K : PySem.W.Frag} {mg : Str → Option Value} {base : Heap} {x qual : Str} {st : Stmt} {f : Addr} {fd : FuncData} {N ps : List Str} {k n : Nat} {ms : List Bool} {body : SV1} (F : Fun K x qual st f fd) (S : FnScope N ps (defScope st)) (hN : N.length = ms.length + n) (hps : ps.length = ms.length)
    (hb : ∀ (cdv : Value) (A : Around) (outer : List Env) (s : Shared) (H : Hp) (E : XK), Room k (A.deeper (PyProof.Rows.envOfC qual (defScope st) s.heap.objs.size f cdv)) →
      PSs (cxOf (CX P w) P w K mg base N qual (defScope st) f cdv A outer s H E) (defBody st) (tS c (fun cls d _ H => E cls d H) body)) :
    FnOk P w K mg base (CX P w) (k + 1) f fd ps (spV c ms (fnSem ms n body)) :=
  F.okX S (fun vs H Q E h => by
    obtain ⟨F, S, os, hh, ha, _⟩ := h
    have l := hh.len
    simp only [List.length_map] at l
    rw [← l, argsOk_len ha, hps]) fun cdv A outer s H vs Q E hr h => ⟨_, hb cdv A outer s H E hr, body_sp h hN⟩
end VS
namespace VS
open PySem L2
variable {c : Cn} {W : WX} {F F' F1 F2 H H' H1 H2 : Hp} {S S' S1 S2 : Nat → Set1} {T T' T1 T2 : Set1} {σ σ' σ1 : L2.St} {r : R} {v : V} {env env' env1 : VEnv} {Q : VK} {fa fb fc : EV} {X : Cx}
structure CalleeF (P : Program) (w : World) (K : PySem.W.Frag) (mg : Str → Option Value) (base : Heap) (k : Nat) (f : Addr) (fd : FuncData) (ps : List Str) (ms : List Bool) (nm : Nat → Str) (g : Fn) : Prop where
  ok : FnOk P w K mg base (CX P w) k f fd ps (spV ⟨K, mg, nm⟩ ms g)
  b : Binds K fd ps []
  kp : PySem.W.keepIn K (.ref f) = true
  all : ∀ (s : Shared) (us : List Value), us.length = ps.length → BindsTo s fd ⟨us, []⟩ (ps.zip us)
structure Callee (P : Program) (w : World) (K : PySem.W.Frag) (mg : Str → Option Value) (base : Heap) (k : Nat) (f : Addr) (ps : List Str) (ms : List Bool) (nm : Nat → Str) (g : Fn) : Prop where
  ex : ∃ fd, CalleeF P w K mg base k f fd ps ms nm g
theorem v_callC {nm : Nat → Str} {ms : List Bool} {g : Fn} {as : List EV} {j k : Nat} {f : Addr} {ps : List Str} {x : Str} {p pos : Pos} {e : Expr} {es : List Expr} (C : Callee X.prog X.w X.K X.mg X.base k f ps ms nm g) (hr : Room j X.A) (hg : Gl X x) (hm : X.mg x = some (.ref f)) (tk : Takes X W) (ha : PA X (e :: es) (tVA ⟨X.K, X.mg, nm⟩ W (eArgs as)))
    (hk : k ≤ j := by decide) (hd : (x == ("__debug__" : Str)) = false := by decide) (he : starEach (e :: es) X.env = (false, eval e X.env) :: starEach es X.env := by rfl) (hpl : (backTo pos (starEach es X.env)).any (·.1) = false := by rfl) : PE X (.Call (.Name x p) (e :: es) [] pos) (tV ⟨X.K, X.mg, nm⟩ W (eCall ms g as)) := by
  obtain ⟨fd, G⟩ := C.ex
  exact v_call G.ok (hr.mono hk) hg hm G.kp G.b tk ha hd he hpl
theorem v_fnD {P : Program} {w : World} {K : PySem.W.Frag} {mg : Str → Option Value} {base : Heap} {x qual : Str} {params : Arguments} {body : List Stmt} {scope : Scope} {kws : List (Str × V)} {f : Addr} {fd : FuncData} {N ps : List Str} {k n : Nat} {ms : List Bool} {code : SV1} {nm : Nat → Str} (F : FunD K x qual params body scope [] kws f fd) (S : FnScope N ps scope) (hN : N.length = ms.length + n) (hps : ps.length = ms.length)
    (hbd : ∀ (kV doc pm : Value) (an : Option Addr) (cdv ct : Value) (us : List Value), us.length = ps.length → bindArgs (PySem.W.fnOf x qual params body scope .none kV doc pm an cdv ct) ⟨us, []⟩ = pure (ps.zip us))
    (hb : ∀ (cdv : Value) (A : Around) (outer : List Env) (s : Shared) (H : Hp) (E : XK), Room k (A.deeper (PyProof.Rows.envOfC qual scope s.heap.objs.size f cdv)) →
      PSs (cxOf (CX P w) P w K mg base N qual scope f cdv A outer s H E) body (tS ⟨K, mg, nm⟩ (fun cls d _ H => E cls d H) code)) :
    CalleeF P w K mg base (k + 1) f fd ps ms nm (fnSem ms n code) :=
  ⟨F.ok S (fun vs H Q E h => by
    obtain ⟨F, S, os, hh, ha, _⟩ := h
    have l := hh.len
    simp only [List.length_map] at l
    rw [← l, argsOk_len ha, hps]) fun cdv A outer s H vs Q E hr h => ⟨_, hb cdv A outer s H E hr, body_sp h hN⟩, F.bindsN hbd, F.kp, F.bindsA hbd⟩
structure Tx (fa : List He.Fa) (fn : List He.DefD) (K : PySem.W.Frag) (mg : Str → Option Value) : Prop where
  says : He.SaysD fa fn K
  heap : ∃ h : Heap, K.In h ∧ h.Ns mainGlobals mg
section
variable {lf : List He.Fa} {fn : List He.DefD} {K : PySem.W.Frag} {mg : Str → Option Value}
theorem Tx.glo (T : Tx lf fn K mg) (i : Nat) {x : Str} (h : lf[i]? = some (.glo x) := by rfl) : mg x = some (.ref (He.ga K x)) := by
  obtain ⟨hp, X, G⟩ := T.heap
  exact He.glo_ok X G (T.says.fact i h)
theorem Tx.free (T : Tx lf fn K mg) (i : Nat) {x : Str} (h : lf[i]? = some (.free x) := by rfl) : mg x = none := by
  obtain ⟨hp, X, G⟩ := T.heap
  exact He.free_ok X G (T.says.fact i h)
theorem Tx.int (T : Tx lf fn K mg) (i : Nat) {x : Str} {n : Int} (h : lf[i]? = some (.int x n) := by rfl) : ∃ t, mg x = some (.int n t) := by
  obtain ⟨hp, X, G⟩ := T.heap
  exact He.int_ok X G (T.says.fact i h)
theorem Tx.str (T : Tx lf fn K mg) (i : Nat) {x z : Str} (h : lf[i]? = some (.str x z) := by rfl) : ∃ t, mg x = some (.str z t) := by
  obtain ⟨hp, X, G⟩ := T.heap
  exact He.str_ok X G (T.says.fact i h)
end
theorem v_gint {x : Str} {n : Int} {pos : Pos} (hg : Gl X x) (hm : ∃ t, X.mg x = some (.int n t)) (hd : (x == ("__debug__" : Str)) = false := by decide) : PE X (.Name x pos) (tV c W (eC (.int n))) := by
  obtain ⟨t, ht⟩ := hm
  exact v_const (pe_glob (v := .int n) hg ht ⟨t, rfl⟩ hd) fun F => .int n
theorem v_gstr {x z : Str} {s : List Nat} {pos : Pos} (hg : Gl X x) (hm : ∃ t, X.mg x = some (.str z t)) (h : z = ⟨s.toArray⟩ := by decide +kernel) (hd : (x == ("__debug__" : Str)) = false := by decide) : PE X (.Name x pos) (tV c W (eC (.str s))) := by
  obtain ⟨t, ht⟩ := hm
  subst h
  exact v_const (pe_glob (v := .str ⟨s.toArray⟩) hg ht ⟨t, rfl⟩ hd) fun F => .str s
theorem new_own {p : Addr} {u : HO} (hh : Hold c F S env σ H) (hp : H p = none) : Go F (un S) H F S (fun x => x = p) (upd H p u) ∧ Hold c F S env σ (upd H p u) := by
  have sm : ∀ x o, H x = some o → upd H p u x = some o := fun x o e => by rw [upd_ne (ne_of_none e hp)]; exact e
  refine ⟨⟨Same.rfl', fun x o e _ => sm x o e, fun i x h => .inl ⟨i, h⟩, fun x h => .inr (by subst h; exact hp), fun x h => .inl h, fun i x h hs => ?_, fun x h => ?_⟩, hh.heap Same.rfl' (fun a o e => sm a o (hh.ex a o e)) (fun j x o _ e => sm x o e) hh.off⟩
  · subst h
    obtain ⟨o, ho, _⟩ := hh.own hs
    rw [hp] at ho; cases ho
  · subst h
    exact none_of_ne fun hn => by
      cases e : F x with
      | none => exact hn e
      | some o => have := hh.ex x o e; rw [hp] at this; cases this
theorem v_dict0 {pos : Pos} : PE X (.Dict [] [] pos) (tV c W (eDict0 false)) := PE_imp pe_dnewK fun σ H Q h p hp => by
  obtain ⟨F, S, env, hh, res, e, q⟩ := h
  cases e
  obtain ⟨g, h2⟩ := new_own (u := .dK []) hh hp
  exact q F S _ _ _ g h2 Kp.rfl' (RO.dK (fun _ => noT) upd_same rfl (fun k kv kd h => by simp at h) (fun k kv kd h => by simp at h) (fun i j x h => h.elim) (fun k x h => h.elim) fun x => ⟨.inl, fun h => h.elim id fun ⟨k, z⟩ => z.elim⟩)
theorem v_dict0T {pos : Pos} : PE X (.Dict [] [] pos) (tV c W (eDict0 true)) := PE_imp pe_dnewT fun σ H Q h p hp => by
  obtain ⟨F, S, env, hh, res, e, q⟩ := h
  cases e
  obtain ⟨g, h2⟩ := new_own (u := .dT []) hh hp
  exact q F S _ _ _ g h2 Kp.rfl' (RO.dT (fun _ => noT) upd_same rfl (fun k kv kd h => by simp at h) (fun k kv kd h => by simp at h) (fun i j x h => h.elim) (fun k x h => h.elim) fun x => ⟨.inl, fun h => h.elim id fun ⟨k, z⟩ => z.elim⟩)
theorem cx_end {P : Program} {w : World} {H : Hp} {s s' : Shared} {e : Value} (h : CX P w [] H s (fun _ _ _ => False) e s') : False := by
  obtain ⟨_, _, _, _, _, _, _, _, _, _, _, _, h⟩ := h
  exact h
theorem walk_V {l : PySem.W.OpenLaw} {n k : Nat} {q : Program} {loose : List Str} {XP : (Str → Option Value) → Heap → Prop} {YP : World → Heap → Prop} {d : DefRec} {x : Str} {nm : Nat → Str} {g : Fn}
    (hn : l.most = some n) (hn2 : n ≤ sizeLine) (hdf : d.params.defaults = []) (hr : Room k callerA)
    (hF : ∀ (w : World) (mg : Str → Option Value) (fa : Addr) (h : Heap), YP w h → h.Ns mainGlobals mg → mg d.name = some (.ref fa) →
      ∃ (K : PySem.W.Frag) (fd : FuncData), K.In h ∧ (∀ (s : Shared) (u : Value), BindsTo s fd ⟨[u], []⟩ [(x, u)]) ∧ ∀ base : Heap, K.In base → base.Ns mainGlobals mg → FnOk l.prog w K mg base (CX l.prog w) k fa fd [x] (spV ⟨K, mg, nm⟩ [false] g))
    (hsp : ∀ ns : List Int, ns.length ≤ n → ∃ os', g [.val (.scr ns)] = some (.ret (.val (.bl true)) os')) :
    PySem.W.WalkO q loose XP YP l.row.toRowW d [] (fun f vs => PySem.call f vs) := by
  refine Att.attach_call hn hdf fun w s₀ s₁ mg mb fa o pm cd doc a vs ns G Y ho hd hcd hmg hobj hints hlen hg => ?_
  obtain ⟨K, fd, KX, hb, hF⟩ := hF w mg fa _ Y G.T.g hmg
  refine law_call KX G.T.g G.T.b G.T.builtins G.T.nolimit hg hobj hints (Nat.le_trans hlen hn2) hr hF hb (fun H hO hS => ?_) fun H e s' => cx_end
  obtain ⟨os', hs⟩ := hsp ns hlen
  refine ⟨H, fun _ => noT, [.val (.scr ns)], ⟨Same.rfl', rfl, fun i o ho => ?_, fun i j x h => h.elim, fun i x h => h.elim, fun i x h => h.elim⟩, rfl, _, hs, fun F' S' T v H' g hA ro => ?_⟩
  · rw [loc_at] at ho
    cases i with
    | zero => cases ho; exact ⟨_, rfl, .val (.scr hS) fun x h => h⟩
    | succ i => simp at ho
  · cases ro with
    | val rp _ => cases rp; rfl
end VS
namespace VS
open PySem L2
variable {c : Cn} {W : WX} {F F' F1 F2 H H' H1 H2 : Hp} {S S' S1 S2 : Nat → Set1} {T T' T1 T2 : Set1} {σ σ' σ1 : L2.St} {r : R} {v : V} {env env' env1 : VEnv} {Q : VK} {fa fb fc : EV} {X : Cx}
variable {e e2 : Expr} {p pos : Pos}
theorem a1 (ha : PE X e (tV c W fa)) (he : starEach [e] X.env = (false, eval e X.env) :: starEach [] X.env := by rfl) : PA X [e] (tVA c W (eArgs [fa])) := v_cons ha v_nil he
theorem a2 (ha : PE X e (tV c W fa)) (hb : PE X e2 (tV c W fb)) (he : starEach [e, e2] X.env = (false, eval e X.env) :: starEach [e2] X.env := by rfl) (he2 : starEach [e2] X.env = (false, eval e2 X.env) :: starEach [] X.env := by rfl) : PA X [e, e2] (tVA c W (eArgs [fa, fb])) := v_cons ha (v_cons hb v_nil he2) he
theorem v_len (hK : c.K = X.K) (hg : Gl X "len") (hm : X.mg "len" = none) (ha : PA X [e] (tVA c W (eArgs [fa]))) (he : starEach [e] X.env = (false, eval e X.env) :: starEach [] X.env := by rfl) (hpl : (backTo pos (starEach [] X.env)).any (·.1) = false := by rfl) :
    PE X (.Call (.Name "len" p) [e] [] pos) (tV c W (eOp (opS fLen) (eArgs [fa]))) := v_bltn op_lenS (by rw [hK]; exact call_len) hg hm (by decide +kernel) ha (by decide) (by decide) he hpl
theorem v_abs (hg : Gl X "abs") (hm : X.mg "abs" = none) (ha : PA X [e] (tVA c W (eArgs [fa]))) (he : starEach [e] X.env = (false, eval e X.env) :: starEach [] X.env := by rfl) (hpl : (backTo pos (starEach [] X.env)).any (·.1) = false := by rfl) :
    PE X (.Call (.Name "abs" p) [e] [] pos) (tV c W (eOp (opS fAbs) (eArgs [fa]))) := v_bltn op_absS call_abs hg hm (by decide +kernel) ha (by decide) (by decide) he hpl
theorem v_max2 (hc : X.calm = true) (hg : Gl X "max") (hm : X.mg "max" = none) (ha : PA X [e, e2] (tVA c W (eArgs [fa, fb]))) (he : starEach [e, e2] X.env = (false, eval e X.env) :: starEach [e2] X.env := by rfl) (hpl : (backTo pos (starEach [e2] X.env)).any (·.1) = false := by rfl) :
    PE X (.Call (.Name "max" p) [e, e2] [] pos) (tV c W (eOp (opS fMax2) (eArgs [fa, fb]))) := v_bltn op_max2S (call_max2 hc) hg hm (by decide +kernel) ha (by decide) (by decide) he hpl
theorem v_min2 (hc : X.calm = true) (hg : Gl X "min") (hm : X.mg "min" = none) (ha : PA X [e, e2] (tVA c W (eArgs [fa, fb]))) (he : starEach [e, e2] X.env = (false, eval e X.env) :: starEach [e2] X.env := by rfl) (hpl : (backTo pos (starEach [e2] X.env)).any (·.1) = false := by rfl) :
    PE X (.Call (.Name "min" p) [e, e2] [] pos) (tV c W (eOp (opS fMin2) (eArgs [fa, fb]))) := v_bltn op_min2S (call_min2 hc) hg hm (by decide +kernel) ha (by decide) (by decide) he hpl
theorem v_any (hK : c.K = X.K) (hc : X.calm = true) (hg : Gl X "any") (hm : X.mg "any" = none) (ha : PA X [e] (tVA c W (eArgs [fa]))) (he : starEach [e] X.env = (false, eval e X.env) :: starEach [] X.env := by rfl) (hpl : (backTo pos (starEach [] X.env)).any (·.1) = false := by rfl) :
    PE X (.Call (.Name "any" p) [e] [] pos) (tV c W (eOp (opS fAny) (eArgs [fa]))) := v_bltn op_anyS (by rw [hK]; exact cr_any hc) hg hm (by decide +kernel) ha (by decide) (by decide) he hpl
theorem v_all (hK : c.K = X.K) (hc : X.calm = true) (hg : Gl X "all") (hm : X.mg "all" = none) (ha : PA X [e] (tVA c W (eArgs [fa]))) (he : starEach [e] X.env = (false, eval e X.env) :: starEach [] X.env := by rfl) (hpl : (backTo pos (starEach [] X.env)).any (·.1) = false := by rfl) :
    PE X (.Call (.Name "all" p) [e] [] pos) (tV c W (eOp (opS fAll) (eArgs [fa]))) := v_bltn op_allS (by rw [hK]; exact cr_all hc) hg hm (by decide +kernel) ha (by decide) (by decide) he hpl
theorem v_sum (hK : c.K = X.K) (hc : X.calm = true) (hg : Gl X "sum") (hm : X.mg "sum" = none) (ha : PA X [e] (tVA c W (eArgs [fa]))) (he : starEach [e] X.env = (false, eval e X.env) :: starEach [] X.env := by rfl) (hpl : (backTo pos (starEach [] X.env)).any (·.1) = false := by rfl) :
    PE X (.Call (.Name "sum" p) [e] [] pos) (tV c W (eOp (opS fSum) (eArgs [fa]))) := v_bltn op_sumS (by rw [hK]; exact cr_sum hc) hg hm (by decide +kernel) ha (by decide) (by decide) he hpl
theorem v_intC (hg : Gl X "int") (hm : X.mg "int" = none) (ha : PA X [e] (tVA c W (eArgs [fa]))) (he : starEach [e] X.env = (false, eval e X.env) :: starEach [] X.env := by rfl) (hpl : (backTo pos (starEach [] X.env)).any (·.1) = false := by rfl) :
    PE X (.Call (.Name "int" p) [e] [] pos) (tV c W (eOp (opS fInt) (eArgs [fa]))) := v_type op_intS call_int1 hg hm (by decide +kernel) ha (by decide) (by decide) he hpl
theorem v_listC (hK : c.K = X.K) (hg : Gl X "list") (hm : X.mg "list" = none) (ha : PA X [e] (tVA c W (eArgs [fa]))) (he : starEach [e] X.env = (false, eval e X.env) :: starEach [] X.env := by rfl) (hpl : (backTo pos (starEach [] X.env)).any (·.1) = false := by rfl) :
    PE X (.Call (.Name "list" p) [e] [] pos) (tV c W (eOp opList (eArgs [fa]))) := v_type op_listO (by rw [hK]; exact call_list_of) hg hm (by decide +kernel) ha (by decide) (by decide) he hpl
theorem v_tupleC (hK : c.K = X.K) (hg : Gl X "tuple") (hm : X.mg "tuple" = none) (ha : PA X [e] (tVA c W (eArgs [fa]))) (he : starEach [e] X.env = (false, eval e X.env) :: starEach [] X.env := by rfl) (hpl : (backTo pos (starEach [] X.env)).any (·.1) = false := by rfl) :
    PE X (.Call (.Name "tuple" p) [e] [] pos) (tV c W (eOp opTuple (eArgs [fa]))) := v_type op_tupleO (by rw [hK]; exact call_tuple_of) hg hm (by decide +kernel) ha (by decide) (by decide) he hpl
theorem w_list {tg : Expr} (hK : c.K = X.K) (ha : PE X e (tV c W fa)) : PI X tg e (tI c W (itList fa)) := v_itList hK ha (pi_list ha) (pi_tup ha)
theorem w_range1 {tg : Expr} (hg : Gl X "range") (hm : X.mg "range" = none) (ha : PE X e (tV c W fa)) (he : starEach [e] X.env = [(false, eval e X.env)] := by rfl) : PI X tg (.Call (.Name "range" p) [e] [] pos) (tI c W (itRange1 fa)) :=
  v_itRange1 (pi_range1 hg hm (pa_cons ha pa_nil he) he)
theorem w_range2 {tg : Expr} (hg : Gl X "range") (hm : X.mg "range" = none) (ha : PE X e (tV c W fa)) (hb : PE X e2 (tV c W fb)) (he : starEach [e, e2] X.env = [(false, eval e X.env), (false, eval e2 X.env)] := by rfl) (he2 : starEach [e2] X.env = [(false, eval e2 X.env)] := by rfl) :
    PI X tg (.Call (.Name "range" p) [e, e2] [] pos) (tI c W (itRange2 fa fb)) :=
  v_itRange2 (pi_range2 hg hm (pa_cons ha (pa_cons hb pa_nil he2) (he.trans (by rw [he2]))) he he2)
variable {a b : Expr}
theorem v_lt (ha : PE X a (tV c W fa)) (hb : PE X b (tV c W fb)) : PE X (.Compare a [.Lt] [b] pos) (tV c W (eOp2 (opS fLt) fa fb)) := v_cmp op_cmpS op_lt ha hb (nomark b)
theorem v_le (ha : PE X a (tV c W fa)) (hb : PE X b (tV c W fb)) : PE X (.Compare a [.LtE] [b] pos) (tV c W (eOp2 (opS fLe) fa fb)) := v_cmp op_cmpS op_le ha hb (nomark b)
theorem v_gt (ha : PE X a (tV c W fa)) (hb : PE X b (tV c W fb)) : PE X (.Compare a [.Gt] [b] pos) (tV c W (eOp2 (opS fGt) fa fb)) := v_cmp op_cmpS op_gt ha hb (nomark b)
theorem v_ge (ha : PE X a (tV c W fa)) (hb : PE X b (tV c W fb)) : PE X (.Compare a [.GtE] [b] pos) (tV c W (eOp2 (opS fGe) fa fb)) := v_cmp op_cmpS op_ge ha hb (nomark b)
theorem v_eq {k : Nat} (hK : c.K = X.K) (hr : Room k X.A) (ha : PE X a (tV c W fa)) (hb : PE X b (tV c W fb)) : PE X (.Compare a [.Eq] [b] pos) (tV c W (eOp2 (opS fEq) fa fb)) := v_cmp op_eqS (by rw [hK]; exact op_eqD hr.units) ha hb (nomark b)
theorem v_ne {k : Nat} (hK : c.K = X.K) (hr : Room k X.A) (ha : PE X a (tV c W fa)) (hb : PE X b (tV c W fb)) : PE X (.Compare a [.NotEq] [b] pos) (tV c W (eOp2 (opS fNe) fa fb)) := v_cmp op_neS (by rw [hK]; exact op_neD hr.units) ha hb (nomark b)
theorem v_is (ha : PE X a (tV c W fa)) (hb : PE X b (tV c W fb)) : PE X (.Compare a [.Is] [b] pos) (tV c W (eOp2 (opS fIs) fa fb)) := v_cmp op_isS op_isN ha hb (nomark b)
theorem v_isNot (ha : PE X a (tV c W fa)) (hb : PE X b (tV c W fb)) : PE X (.Compare a [.IsNot] [b] pos) (tV c W (eOp2 (opS fIsNot) fa fb)) := v_cmp op_isNotS op_notN ha hb (nomark b)
theorem v_in {k : Nat} (hK : c.K = X.K) (hr : Room k X.A) (ha : PE X a (tV c W fa)) (hb : PE X b (tV c W fb)) (hm : behindInMarks .In b = false := by rfl) : PE X (.Compare a [.In] [b] pos) (tV c W (eOp2 (opS fIn) fa fb)) := v_cmp op_inS (by rw [hK]; exact opr_in (by have := hr.un; omega)) ha hb hm
theorem v_notIn {k : Nat} (hK : c.K = X.K) (hr : Room k X.A) (ha : PE X a (tV c W fa)) (hb : PE X b (tV c W fb)) (hm : behindInMarks .NotIn b = false := by rfl) : PE X (.Compare a [.NotIn] [b] pos) (tV c W (eOp2 (opS fNotIn) fa fb)) := v_cmp op_notInS (by rw [hK]; exact opr_notIn (by have := hr.un; omega)) ha hb hm
theorem t_lt (ha : PE X a (tV c W fa)) (hb : PE X b (tV c W fb)) : PT X (.Compare a [.Lt] [b] pos) (tVT c W (eTest (eOp2 (opS fLt) fa fb))) := v_cmpT op_cmpS op_lt ha hb (nomark b)
theorem t_le (ha : PE X a (tV c W fa)) (hb : PE X b (tV c W fb)) : PT X (.Compare a [.LtE] [b] pos) (tVT c W (eTest (eOp2 (opS fLe) fa fb))) := v_cmpT op_cmpS op_le ha hb (nomark b)
theorem t_gt (ha : PE X a (tV c W fa)) (hb : PE X b (tV c W fb)) : PT X (.Compare a [.Gt] [b] pos) (tVT c W (eTest (eOp2 (opS fGt) fa fb))) := v_cmpT op_cmpS op_gt ha hb (nomark b)
theorem t_ge (ha : PE X a (tV c W fa)) (hb : PE X b (tV c W fb)) : PT X (.Compare a [.GtE] [b] pos) (tVT c W (eTest (eOp2 (opS fGe) fa fb))) := v_cmpT op_cmpS op_ge ha hb (nomark b)
theorem t_eq {k : Nat} (hK : c.K = X.K) (hr : Room k X.A) (ha : PE X a (tV c W fa)) (hb : PE X b (tV c W fb)) : PT X (.Compare a [.Eq] [b] pos) (tVT c W (eTest (eOp2 (opS fEq) fa fb))) := v_cmpT op_eqS (by rw [hK]; exact op_eqD hr.units) ha hb (nomark b)
theorem t_ne {k : Nat} (hK : c.K = X.K) (hr : Room k X.A) (ha : PE X a (tV c W fa)) (hb : PE X b (tV c W fb)) : PT X (.Compare a [.NotEq] [b] pos) (tVT c W (eTest (eOp2 (opS fNe) fa fb))) := v_cmpT op_neS (by rw [hK]; exact op_neD hr.units) ha hb (nomark b)
theorem t_is (ha : PE X a (tV c W fa)) (hb : PE X b (tV c W fb)) : PT X (.Compare a [.Is] [b] pos) (tVT c W (eTest (eOp2 (opS fIs) fa fb))) := v_cmpT op_isS op_isN ha hb (nomark b)
theorem t_isNot (ha : PE X a (tV c W fa)) (hb : PE X b (tV c W fb)) : PT X (.Compare a [.IsNot] [b] pos) (tVT c W (eTest (eOp2 (opS fIsNot) fa fb))) := v_cmpT op_isNotS op_notN ha hb (nomark b)
theorem t_in {k : Nat} (hK : c.K = X.K) (hr : Room k X.A) (ha : PE X a (tV c W fa)) (hb : PE X b (tV c W fb)) (hm : behindInMarks .In b = false := by rfl) : PT X (.Compare a [.In] [b] pos) (tVT c W (eTest (eOp2 (opS fIn) fa fb))) := v_cmpT op_inS (by rw [hK]; exact opr_in (by have := hr.un; omega)) ha hb hm
theorem t_notIn {k : Nat} (hK : c.K = X.K) (hr : Room k X.A) (ha : PE X a (tV c W fa)) (hb : PE X b (tV c W fb)) (hm : behindInMarks .NotIn b = false := by rfl) : PT X (.Compare a [.NotIn] [b] pos) (tVT c W (eTest (eOp2 (opS fNotIn) fa fb))) := v_cmpT op_notInS (by rw [hK]; exact opr_notIn (by have := hr.un; omega)) ha hb hm
theorem t_val (ha : PE X e (tV c W fa)) (hw : ∀ whole, isTrue e X.env whole = (do let v ← whole; standAt e.pos; holding [v] (truthy v)) := by intro _; rfl) : PT X e (tVT c W (eTest fa)) := v_testB (pt_val ha hw)
theorem w_one {op : BoolOp} {m : M Bool} (ha : PT X e (tVT c W m)) (h : PW X (.BoolOp op [e] pos) (tVT c W m)) : PW X (.BoolOp op [e] pos) (tVT c W m) := h
theorem chain_ok {p1 p2 : Int → Int → Bool} (h : tV c W (eChain (fCmp p1) (fCmp p2) fa fb fc) σ H Q) : tChain (rI0 fun i j => V.bl (p1 i j)) (rI0 fun i j => V.bl (p2 i j)) (tV c W fa) (tV c W fb) (tV c W fc) σ H Q := by
  obtain ⟨F, S, env, hh, res, e, q⟩ := h
  rcases bind_some e with ⟨r1, e1, h1, e⟩ | ⟨x, e1, h1, rfl⟩
  · refine ⟨F, S, env, hh, _, h1, fun F1 S1 T1 v1 H1 g1 hh1 k1 is1 => ?_⟩
    have t1 : Temps c F1 S1 σ H1 [r1] [v1] _ := Temps.one is1 g1.dT g1.oT
    rcases bind_some e with ⟨r2, e2, h2, e⟩ | ⟨x, e2, h2, rfl⟩
    · refine ⟨F1, S1, e1, hh1, _, h2, fun F2 S2 T2 v2 H2 g2 hh2 k2 is2 => ?_⟩
      obtain ⟨t1', _⟩ := t1.go g2 t1.offU
      have t2 : Temps c F2 S2 σ H2 [r2] [v2] _ := Temps.one is2 g2.dT g2.oT
      rcases bind_some e with ⟨z, e3, h3, e⟩ | ⟨x, e3, h3, rfl⟩
      · unfold M.lift opS at h3
        simp only [Option.map_eq_some_iff, Option.bind_eq_some_iff] at h3
        obtain ⟨⟨z', e3'⟩, ⟨d, ⟨ds, hm, hf⟩, hz⟩, hz2⟩ := h3
        cases hz
        cases hz2
        obtain ⟨hl, hg⟩ := mapM_get hm
        unfold fCmp at hf
        split at hf
        · rename_i i j
          cases hf
          have rp1 := t1'.at0.rep hh2 (hg 0 r1 _ rfl rfl)
          have rp2 := is2.rep hh2 (hg 1 r2 _ rfl rfl)
          cases rp1
          cases rp2
          refine ⟨i, j, rfl, rfl, p1 i j, rfl, ?_⟩
          cases hp : p1 i j with
          | false =>
            rw [hp] at e
            rw [if_neg Bool.false_ne_true]
            cases e
            exact q F2 S2 noT _ H2 ((g1.transS g2).none) hh2 (k1.trans k2) (RO.val (.bl _) fun x h => h)
          | true =>
            rw [hp] at e
            rw [if_pos rfl]
            rcases bind_some e with ⟨r4, e4, h4, e⟩ | ⟨x, e4, h4, rfl⟩
            · refine ⟨F2, S2, _, hh2, _, h4, fun F4 S4 T4 v4 H4 g4 hh4 k4 is4 => ?_⟩
              obtain ⟨t2', _⟩ := t2.go g4 t2.offU
              unfold M.lift opS at e
              simp only [Option.map_eq_some_iff, Option.bind_eq_some_iff] at e
              obtain ⟨⟨z', e5⟩, ⟨d, ⟨ds, hm, hf⟩, hz⟩, hz2⟩ := e
              cases hz
              cases hz2
              obtain ⟨hl, hg⟩ := mapM_get hm
              unfold fCmp at hf
              split at hf
              · rename_i i' j'
                cases hf
                have rp3 := t2'.at0.rep hh4 (hg 0 r2 _ rfl rfl)
                have rp4 := is4.rep hh4 (hg 1 r4 _ rfl rfl)
                cases rp3
                cases rp4
                exact ⟨_, _, rfl, rfl, q F4 S4 noT _ H4 ((g1.transS g2).transS g4).none hh4 (k1.trans (k2.trans k4)) (RO.val (.bl _) fun x h => h)⟩
              · cases hf
            · exact ⟨F2, S2, _, hh2, _, h4, EndX_go g2 k2 (EndX_go g1 k1 q)⟩
        · cases hf
      · unfold M.lift at h3
        obtain ⟨_, _, z⟩ := Option.map_eq_some_iff.mp h3
        cases z
    · exact ⟨F1, S1, e1, hh1, _, h2, EndX_go g1 k1 q⟩
  · exact ⟨F, S, env, hh, _, h1, q⟩
theorem v_chain {op op' : CmpOp} {p1 p2 : Int → Int → Bool} {b2 b3 : Expr} (ho : OpR X (compareOp op) (rI0 fun i j => V.bl (p1 i j))) (ho' : OpR X (compareOp op') (rI0 fun i j => V.bl (p2 i j))) (ha : PE X e (tV c W fa)) (hb : PE X b2 (tV c W fb)) (hcc : PE X b3 (tV c W fc)) (hm : lastMarks [op, op'] [b2, b3] = false := by rfl) :
    PE X (.Compare e [op, op'] [b2, b3] pos) (tV c W (eChain (fCmp p1) (fCmp p2) fa fb fc)) := PE_imp (pe_chain ho ho' ha hb hcc hm) fun σ H Q h => chain_ok h
theorem t_chain {op op' : CmpOp} {p1 p2 : Int → Int → Bool} {b2 b3 : Expr} (ho : OpR X (compareOp op) (rI0 fun i j => V.bl (p1 i j))) (ho' : OpR X (compareOp op') (rI0 fun i j => V.bl (p2 i j))) (ha : PE X e (tV c W fa)) (hb : PE X b2 (tV c W fb)) (hcc : PE X b3 (tV c W fc)) (hm : lastMarks [op, op'] [b2, b3] = false := by rfl) :
    PT X (.Compare e [op, op'] [b2, b3] pos) (tVT c W (eTest (eChain (fCmp p1) (fCmp p2) fa fb fc))) := PT_imp (pt_chain ho ho' ha hb hcc hm) fun σ H Q h => chain_ok (test_of h)
end VS
namespace VS
abbrev Rd := VEnv → Option O
def qVar (i : Nat) : Rd := fun env => env.at i
def qC (d : D) : Rd := fun _ => some (.val d)
def scD : D → Bool
  | .non => true
  | .bl _ => true
  | .int _ => true
  | .str _ => true
  | _ => false
def qOp2 (f : List D → Option D) (a b : Rd) : Rd := fun env => match a env, b env with
  | some x, some y => match f [x.data, y.data] with
    | some d => if scD d then some (.val d) else none
    | none => none
  | _, _ => none
def qOp1 (f : List D → Option D) (a : Rd) : Rd := fun env => match a env with
  | some x => match f [x.data] with
    | some d => if scD d then some (.val d) else none
    | none => none
  | _ => none
def O.item (x : O) (i : Int) : Option O := match x with
  | .lst os => atD os i
  | .tup os => atD os i
  | .val (.lst ds) => (atD ds i).map .val
  | .val (.tup ds) => (atD ds i).map .val
  | .val (.str s) => if s.length ≤ maxLen then (atD s i).map fun k => .val (.str [k]) else none
  | _ => none
def qIx (a b : Rd) : Rd := fun env => match a env, b env with
  | some x, some (.val (.int i)) => x.item i
  | _, _ => none
def ePure (q : Rd) : EV := fun env => match q env with
  | some (.val d) => some (.ok (.o (.val d)) env)
  | _ => none
end VS
namespace VS
def opIxT : List R → VEnv → Option (R × VEnv)
  | [.o (.lst os), r2], env => match r2.data env with
    | some (.int i) => (atD os i).map fun o => (.o o, env)
    | _ => none
  | _, _ => none
def gIx := opOr opIx opIxT
end VS
namespace VS
def itStr (e : EV) : M (List D) := M.bind e fun r => match r with
  | .o (.val (.str s)) => M.ret (s.map fun k => .str [k])
  | _ => M.fail
def M.orElse {α : Type} (a b : M α) : M α := fun env => match a env with
  | some r => some r
  | none => b env
def itAny (e : EV) : M (List D) := M.orElse (itList e) (itStr e)
end VS
namespace VS
def opRev : List R → VEnv → Option (R × VEnv)
  | [r], env => match r.items env with
    | some (true, ds) => some (.o (oLst ds.reverse), env)
    | some (false, ds) => some (.o (.val (.tup ds.reverse)), env)
    | none => none
  | _, _ => none
def rsz (a b c : Int) : Int := if c > 0 then (if a < b then (b - a - 1) / c + 1 else 0) else (if a > b then (a - b - 1) / (-c) + 1 else 0)
def rangeC (a c : Int) (n : Nat) : List D := (List.range n).map fun (k : Nat) => D.int (a + k * c)
def itRange3 (a b c : EV) : M (List D) := M.bind a fun r => M.bind b fun s => M.bind c fun t => match r, s, t with
  | .o (.val (.int i)), .o (.val (.int j)), .o (.val (.int k)) => if bigI i && bigI j && (k == -1 || k == 2) then M.ret (rangeC i k (rsz i j k).toNat) else M.fail
  | _, _, _ => M.fail
def sPar (i j : Nat) (a b : EV) : SV1 := M.bind (eArgs [a, b]) fun rs => fun env => match settles rs env with
  | some (os, e1) => M.liftE (Tg.sets [.name i, .name j] os) e1
  | none => none
end VS
namespace VS
def opIxB : List R → VEnv → Option (R × VEnv)
  | [.b i, r2], env => match r2.data env, env[i]? with
    | some (.int k), some (.loc (.lst os)) => (atD os k).map fun o => (.o (.val o.data), env.set i (.loc (.lst (os.map fun o => .val o.data))))
    | _, _ => none
  | _, _ => none
def gIx2 := opOr gIx opIxB
end VS
namespace VS
open PySem L2
variable {c : Cn} {W : WX} {F F' F1 F2 H H' H1 H2 : Hp} {S S' S1 S2 : Nat → Set1} {T T' T1 T2 : Set1} {σ σ' σ1 : L2.St} {r : R} {v : V} {env env' env1 : VEnv} {Q : VK} {fa fb fc : EV} {qa qb : Rd} {X : Cx}
def tR (c : Cn) (q : Rd) : TE := fun σ H Q => ∃ F S env, Hold c F S env σ H ∧ ∃ o, q env = some o ∧ ∀ v T H', Same H H' → RO c F H' v o T → Q v H'
def tRA (c : Cn) (qs : List Rd) : TA := fun σ H Q => ∃ F S env, Hold c F S env σ H ∧ ∃ os : List O, os.length = qs.length ∧ (∀ (k : Nat) q o, qs[k]? = some q → os[k]? = some o → q env = some o) ∧
  ∀ vs H', Same H H' → vs.length = os.length → (∀ (k : Nat) v o, vs[k]? = some v → os[k]? = some o → ∃ T, RO c F H' v o T) → Q vs H'
theorem Hold.grow (hh : Hold c F S env σ H) (e : Same H H') : Hold c F S env σ H' := hh.heap Same.rfl' (fun a u h => e a u (hh.ex a u h)) (fun j x u _ h => e x u h) hh.off
theorem hold0 : Hold c H (fun _ => noT) [] [] H := ⟨Same.rfl', rfl, fun i o h => by simp [VEnv.at] at h, fun i j x h => h.elim, fun i x h => h.elim, fun i x h => h.elim⟩
theorem rd_var {i : Nat} {e : Expr} (h : PE X e (tVar i)) : PE X e (tR c (qVar i)) := PE_imp h fun σ H Q ⟨F, S, env, hh, o, ho, q⟩ => by
  obtain ⟨v, hv, ro⟩ := hh.cell i o ho
  exact ⟨v, hv, q v _ H Same.rfl' ro⟩
theorem rd_c {e : Expr} {v : V} {d : D} (h : PE X e (tC v)) (hr : ∀ F, Rep c F v d) : PE X e (tR c (qC d)) := PE_imp h fun σ H Q ⟨F, S, env, hh, o, ho, q⟩ => by
  cases ho
  exact q v noT H Same.rfl' (.val (hr F) fun x h => h)
theorem rd_int {i : Int} {j pos} : PE X (.Constant (.int i) j pos) (tR c (qC (.int i))) := rd_c pe_int fun F => .int i
theorem rd_str {x : Str} {s : List Nat} {j pos} (h : x = ⟨s.toArray⟩ := by decide +kernel) : PE X (.Constant (.str x) j pos) (tR c (qC (.str s))) := by
  subst h
  exact rd_c pe_str fun F => .str s
theorem rd_non {j pos} : PE X (.Constant .none j pos) (tR c (qC .non)) := rd_c pe_non fun F => .non
theorem rd_bl {b : Bool} {j pos} : PE X (.Constant (.bool b) j pos) (tR c (qC (.bl b))) := rd_c pe_bl fun F => .bl b
theorem rep_scal {d : D} (h : scD d = true) {G : Hp} (r : Rep c G v d) (F : Hp) : Rep c F v d := by
  cases r with
  | non => exact .non
  | bl => exact .bl _
  | int => exact .int _
  | str => exact .str _
  | tup => cases h
  | lst => cases h
  | scr => cases h
  | dK => cases h
  | dT => cases h
  | ins => cases h
theorem op_read {rr : List V → Hp → VK → Prop} {f : List D → Option D} (ho : Op c rr (opS f)) {vs : List V} {ds : List D} {d : D} (hl : vs.length = ds.length) (hr : ∀ (k : Nat) v d, vs[k]? = some v → ds[k]? = some d → Rep c H v d) (hf : f ds = some d) (hs : scD d = true)
    (q : ∀ v H', Same H H' → (∀ F, Rep c F v d) → Q v H') : rr vs H Q := by
  refine ho H (fun _ => noT) [] [] H (ds.map fun d => R.o (.val d)) vs (fun _ => noT) (.o (.val d)) [] Q hold0 ⟨by simpa using hl, fun k r v hr' hv => ?_, fun i j x h => h.elim, fun k i x h => h.elim, fun k x h => h.elim, fun k x h => h.elim⟩ ?_ fun F' S' T v H' g hh k is => ?_
  · rw [List.getElem?_map] at hr'
    obtain ⟨d, hd, rfl⟩ := Option.map_eq_some_iff.mp hr'
    exact RO.val (hr k v d hv hd) fun x h => h
  · unfold opS
    have : (ds.map fun d => R.o (.val d)).mapM (fun (r : R) => r.data []) = some ds := by
      clear hl hr hf
      induction ds with
      | nil => rfl
      | cons d ds ih =>
        rw [List.map_cons, List.mapM_cons, ih]
        rfl
    rw [this]
    simp [hf]
  · refine q v H' (fun a u h => g.fr a u h fun x => x.elim (fun ⟨_, z⟩ => z) (fun ⟨_, z⟩ => z)) fun F => ?_
    cases is with
    | val rp _ => exact rep_scal hs rp F
theorem read2 {r : R2} {f : List D → Option D} (ho : Op c (R2L r) (opS f)) (h : tR c (qOp2 f qa qb) σ H Q) : tOp r (tR c qa) (tR c qb) σ H Q := by
  obtain ⟨F, S, env, hh, o, e, q⟩ := h
  unfold qOp2 at e
  split at e
  · rename_i x y hx hy
    refine ⟨F, S, env, hh, x, hx, fun v1 T1 H1 s1 ro1 => ⟨F, S, env, hh.grow s1, y, hy, fun v2 T2 H2 s2 ro2 => ?_⟩⟩
    split at e
    · rename_i d hf
      split at e
      · rename_i hs
        cases e
        have hh2 := (hh.grow s1).grow s2
        have r1 : Rep c H2 v1 x.data := ro1.rep (fun a u h => s2 a u ((hh.grow s1).ex a u h)) fun a u _ h => s2 a u h
        have r2 : Rep c H2 v2 y.data := ro2.rep hh2.ex fun a u _ h => h
        obtain ⟨a, b, e1, e2⟩ := op_read (Q := Q) ho (vs := [v1, v2]) rfl (fun k v d hv hd => by
          match k with
          | 0 => cases hv; cases hd; exact r1
          | 1 => cases hv; cases hd; exact r2
          | k + 2 => simp at hv) hf hs fun v H3 s3 rp => q v noT H3 (fun a u h => s3 a u (s2 a u (s1 a u h))) (.val (rp F) fun x h => h)
        cases e1
        exact e2
      · cases e
    · cases e
  · cases e
theorem read1 {rr : List V → Hp → VK → Prop} {f : List D → Option D} (ho : Op c rr (opS f)) (h : tR c (qOp1 f qa) σ H Q) : tR c qa σ H fun v H1 => rr [v] H1 Q := by
  obtain ⟨F, S, env, hh, o, e, q⟩ := h
  unfold qOp1 at e
  split at e
  · rename_i x hx
    refine ⟨F, S, env, hh, x, hx, fun v1 T1 H1 s1 ro1 => ?_⟩
    split at e
    · rename_i d hf
      split at e
      · rename_i hs
        cases e
        have r1 : Rep c H1 v1 x.data := ro1.rep (hh.grow s1).ex fun a u _ h => h
        exact op_read (Q := Q) ho (vs := [v1]) (ds := [x.data]) rfl (fun k v d hv hd => by
          match k with
          | 0 => cases hv; cases hd; exact r1
          | k + 1 => simp at hv) hf hs fun v H3 s3 rp => q v noT H3 (fun a u h => s3 a u (s1 a u h)) (.val (rp F) fun x h => h)
      · cases e
    · cases e
  · cases e
theorem item_of {x o : O} {i : Int} (hF : Same F H) (ro : RO c F H v x T) (e : x.item i = some o) (q : ∀ v T, RO c F H v o T → Q v H) : rIx c.K v (.int i) H Q := by
  unfold O.item at e
  split at e
  · rename_i os
    cases ro with
    | lst S h1 l hr dj bd hT =>
      unfold atD at e
      obtain ⟨j, hj, hd⟩ := Option.bind_eq_some_iff.mp e
      obtain ⟨v, d', hv, hd'⟩ := get_of_lt l (ixN_lt hj)
      rw [hd] at hd'
      cases hd'
      exact .inl ⟨_, _, i, v, rfl, rfl, .inl (.inl h1), by unfold atI; rw [l, ← ixN_eq, hj]; exact hv, q v _ (hr j v o hv hd)⟩
  · rename_i os
    cases ro with
    | tup S h1 l hr dj bd hT =>
      unfold atD at e
      obtain ⟨j, hj, hd⟩ := Option.bind_eq_some_iff.mp e
      obtain ⟨v, d', hv, hd'⟩ := get_of_lt l (ixN_lt hj)
      rw [hd] at hd'
      cases hd'
      exact .inr (.inl ⟨_, _, i, v, rfl, rfl, .inl (.inl (hF _ _ h1)), by unfold atI; rw [l, ← ixN_eq, hj]; exact hv, q v _ (hr j v o hv hd)⟩)
  · rename_i ds
    obtain ⟨d, hd, rfl⟩ := Option.map_eq_some_iff.mp e
    cases ro with
    | val rp hn =>
      cases rp with
      | lst h1 l hr =>
        obtain ⟨k, v, h2, h3, h4⟩ := atI_of l hd
        exact .inl ⟨_, _, i, v, rfl, rfl, .inl (.inl (hF _ _ h1)), h2, q v _ (.val (hr k v d h3 h4) hn)⟩
  · rename_i ds
    obtain ⟨d, hd, rfl⟩ := Option.map_eq_some_iff.mp e
    cases ro with
    | val rp hn =>
      cases rp with
      | tup h1 l hr =>
        obtain ⟨k, v, h2, h3, h4⟩ := atI_of l hd
        exact .inr (.inl ⟨_, _, i, v, rfl, rfl, .inl (.inl (hF _ _ h1)), h2, q v _ (.val (hr k v d h3 h4) hn)⟩)
  · split at e
    · rename_i s hz
      obtain ⟨k, hk, rfl⟩ := Option.map_eq_some_iff.mp e
      cases ro with
      | val rp hn =>
        cases rp
        refine .inr (.inr ⟨_, i, k, rfl, rfl, by rw [sv_len]; exact maxLen_le hz, hk, ?_⟩)
        exact q (SV [k]) noT (.val (.str [k]) fun x h => h)
    · cases e
  · cases e
theorem read_ix (h : tR c (qIx qa qb) σ H Q) : tOp (rIx c.K) (tR c qa) (tR c qb) σ H Q := by
  obtain ⟨F, S, env, hh, o, e, q⟩ := h
  unfold qIx at e
  split at e
  · rename_i x i hx hy
    refine ⟨F, S, env, hh, x, hx, fun v1 T1 H1 s1 ro1 => ⟨F, S, env, hh.grow s1, _, hy, fun v2 T2 H2 s2 ro2 => ?_⟩⟩
    cases ro2 with
    | val rp _ =>
      cases rp
      have ro : RO c F H2 v1 x T1 := ro1.up Same.rfl' fun a u _ h => s2 a u h
      exact item_of ((hh.grow s1).grow s2).ex ro e fun v T r => q v T H2 (fun a u h => s2 a u (s1 a u h)) r
  · cases e
theorem v_pure {e : Expr} (h : PE X e (tR c qa)) : PE X e (tV c W (ePure qa)) := PE_imp h fun σ H Q h => by
  obtain ⟨F, S, env, hh, res, e, q⟩ := h
  unfold ePure at e
  split at e
  · rename_i d hd
    cases e
    refine ⟨F, S, env, hh, _, hd, fun v T H1 s1 ro => ?_⟩
    cases ro with
    | val rp hn => exact q F S noT v H1 ⟨Same.rfl', fun x u h _ => s1 x u h, fun i x h => .inl ⟨i, h⟩, fun x h => h.elim, fun x h => .inl h, fun i x h => h.elim, fun x h => h.elim⟩ (hh.grow s1) Kp.rfl' (RO.val rp fun x h => h)
  · cases e
variable {a b e : Expr} {pos : Pos}
theorem rd_bin {op : Operator} {r : R2} {f : List D → Option D} (hop : Op c (R2L r) (opS f)) (ho : OpR X (binaryOp op) r) (ha : PE X a (tR c qa)) (hb : PE X b (tR c qb)) : PE X (.BinOp a op b pos) (tR c (qOp2 f qa qb)) :=
  PE_imp (pe_op ho ha hb) fun σ H Q h => read2 hop h
theorem rd_sub (ha : PE X a (tR c qa)) (hb : PE X b (tR c qb)) : PE X (.BinOp a .Sub b pos) (tR c (qOp2 fSub qa qb)) := rd_bin op_subS op_sub ha hb
theorem rd_div (ha : PE X a (tR c qa)) (hb : PE X b (tR c qb)) : PE X (.BinOp a .FloorDiv b pos) (tR c (qOp2 fDiv qa qb)) := rd_bin op_divS op_fdivN ha hb
theorem rd_mod (ha : PE X a (tR c qa)) (hb : PE X b (tR c qb)) : PE X (.BinOp a .Mod b pos) (tR c (qOp2 fMod qa qb)) := rd_bin op_modS op_modN ha hb
theorem rd_add (ha : PE X a (tR c qa)) (hb : PE X b (tR c qb)) : PE X (.BinOp a .Add b pos) (tR c (qOp2 fAddI qa qb)) :=
  rd_bin (r := rI0 (fun i j => V.int (i + j))) (op_int2 fun ds d e => by
    unfold fAddI at e
    split at e
    · cases e; exact ⟨_, _, rfl, _, rfl, fun H Q q => ⟨_, _, rfl, rfl, q⟩⟩
    · cases e) op_add ha hb
theorem rd_mul (ha : PE X a (tR c qa)) (hb : PE X b (tR c qb)) : PE X (.BinOp a .Mult b pos) (tR c (qOp2 fMul qa qb)) := rd_bin op_mulS op_mul ha hb
theorem rd_neg (ha : PE X a (tR c qa)) : PE X (.UnaryOp .USub a pos) (tR c (qOp1 fNeg qa)) := PE_imp (pe_un un_neg ha) fun σ H Q h => by
  obtain ⟨F, S, env, hh, o, e, q⟩ := read1 op_negS h
  exact ⟨F, S, env, hh, o, e, fun v T H' s r => by obtain ⟨x, hx, z⟩ := q v T H' s r; cases hx; exact z⟩
theorem rd_ix (hK : c.K = X.K) (ha : PE X a (tR c qa)) (hb : PE X b (tR c qb)) (hp : PlainIx b) : PE X (.Subscript a b pos) (tR c (qIx qa qb)) :=
  PE_imp (pe_ix ix_seq ha hb hp) fun σ H Q h => by rw [← hK]; exact read_ix h
def tA1 (t : TE) : TA := fun σ H Q => t σ H fun v H1 => Q [v] H1
theorem pa_1 {t : TE} (ha : PE X e t) (he : starEach [e] X.env = (false, eval e X.env) :: starEach [] X.env := by rfl) : PA X [e] (tA1 t) := by
  have h : PA X [e] (tCons t tNil) := pa_cons ha pa_nil he
  exact h
theorem rd_len {p : Pos} (hK : c.K = X.K) (hg : Gl X "len") (hm : X.mg "len" = none) (ha : PE X e (tR c qa)) (he : starEach [e] X.env = (false, eval e X.env) :: starEach [] X.env := by rfl) (hpl : (backTo pos (starEach [] X.env)).any (·.1) = false := by rfl) :
    PE X (.Call (.Name "len" p) [e] [] pos) (tR c (qOp1 fLen qa)) := PE_imp (pe_callB call_len hg hm (by decide +kernel) (pa_1 ha he) (by decide) (by decide) he hpl) fun σ H Q h => by
  obtain ⟨F, S, env, hh, o, e, q⟩ := read1 op_lenS h
  exact ⟨F, S, env, hh, o, e, fun v T H' s r => by have := q v T H' s r; rw [hK] at this; exact this⟩
theorem rd_gint {x : Str} {n : Int} (hg : Gl X x) (hm : ∃ t, X.mg x = some (.int n t)) (hd : (x == ("__debug__" : Str)) = false := by decide) : PE X (.Name x pos) (tR c (qC (.int n))) := by
  obtain ⟨t, ht⟩ := hm
  exact rd_c (pe_glob (v := .int n) hg ht ⟨t, rfl⟩ hd) fun F => .int n
end VS
namespace VS
open PySem L2
variable {c : Cn} {W : WX} {F F' F1 F2 H H' H1 H2 : Hp} {S S' S1 S2 : Nat → Set1} {T T' T1 T2 : Set1} {σ σ' σ1 : L2.St} {r : R} {v : V} {env env' env1 : VEnv} {Q : VK} {fa fb fc : EV} {qa qb : Rd} {X : Cx}
theorem op_ixT : Op c (R2L (rIx c.K)) opIxT := by
  intro F S env σ H rs vs Ts r' env' Q hh t hg q
  unfold opIxT at hg
  split at hg
  · rename_i en os r2
    obtain ⟨v1, v2, rfl, i1, i2⟩ := two (rs := []) t
    split at hg
    · rename_i i e2
      have rp2 := i2.rep hh e2
      cases rp2
      obtain ⟨o, ho, e⟩ := Option.map_eq_some_iff.mp hg
      cases e
      have ro : RO c F H v1 (.lst os) (Ts 0) := i1
      cases ro with
      | lst Us h1 l hr dj bd hT =>
        unfold atD at ho
        obtain ⟨j, hj, hd⟩ := Option.bind_eq_some_iff.mp ho
        obtain ⟨v, d', hv, hd'⟩ := get_of_lt l (ixN_lt hj)
        rw [hd] at hd'
        cases hd'
        have sub : ∀ x, Us j x → Ts 0 x := fun x hx => (hT x).mpr (.inr ⟨j, hx⟩)
        refine ⟨_, _, rfl, .inl ⟨_, _, i, v, rfl, rfl, .inl (.inl h1), by unfold atI; rw [l, ← ixN_eq, hj]; exact hv, ?_⟩⟩
        exact q F S (Us j) v H ⟨Same.rfl', fun _ _ h _ => h, fun i x h => .inl (.inl ⟨i, h⟩), fun x h => .inl (.inr ⟨0, sub x h⟩), fun x h => .inl h, fun i x h hs => t.offS 0 i x (sub x h) hs, fun x h => t.offF 0 x (sub x h)⟩ hh Kp.rfl' (hr j v o hv hd)
    · cases hg
  · cases hg
theorem v_ixG {a b : Expr} {pos : Pos} (hK : c.K = X.K) (ha : PE X a (tV c W fa)) (hb : PE X b (tV c W fb)) (hp : PlainIx b) : PE X (.Subscript a b pos) (tV c W (eOp2 gIx fa fb)) :=
  PE_imp (pe_ix ix_seq ha hb hp) fun σ H Q h => op2_ok (op_mono (op_or (by rw [← hK]; exact op_ixO) (by rw [← hK]; exact op_ixT)) fun vs H Q h => h.elim id id) h
end VS
namespace VS
open PySem L2
variable {c : Cn} {W : WX} {F F' F1 F2 H H' H1 H2 : Hp} {S S' S1 S2 : Nat → Set1} {T T' T1 T2 : Set1} {σ σ' σ1 : L2.St} {r : R} {v : V} {env env' env1 : VEnv} {Q : VK} {fa fb fc : EV} {qa qb : Rd} {X : Cx} {tg e : Expr}
theorem tI_or {a b : M (List D)} {K : It → Hp → Prop} (h : tI c W (M.orElse a b) σ H K) : tI c W a σ H K ∨ tI c W b σ H K := by
  obtain ⟨F, S, env, hh, res, e, q⟩ := h
  unfold M.orElse at e
  split at e
  · rename_i r hr
    cases e
    exact .inl ⟨F, S, env, hh, _, hr, q⟩
  · exact .inr ⟨F, S, env, hh, _, e, q⟩
theorem wk_str {s : List Nat} : Wk c (Its ⟨s.toArray⟩) (s.map fun k => D.str [k]) (fun _ => True) := by
  refine ⟨fun _ _ _ _ => trivial, fun i F H _ _ hi => by simpa [Its] using hi, fun F H _ _ => by simp [Its], fun i F H x H' d _ e y hd => ?_⟩
  obtain ⟨rfl, k, hk, rfl⟩ := y
  rw [List.getElem?_map] at hd
  obtain ⟨j, hj, rfl⟩ := Option.map_eq_some_iff.mp hd
  have : j = k := by
    have hk' : s[i]? = some k := by simpa using hk
    rw [hj] at hk'
    exact Option.some.inj hk'
  subst this
  exact yl_same e (.str [j])
theorem w_str (ha : PE X e (tV c W fa)) : PI X tg e (tI c W (itStr fa)) := PI_imp (pi_str ha) fun σ H K h => by
  refine exprI (K' := _) h fun r e1 F1 S1 T1 v H1 res hh1 t1 e q => ?_
  split at e
  · rename_i s
    cases e
    have is := t1.at0
    cases is with
    | val rp _ =>
      cases rp
      exact ⟨_, rfl, q F1 S1 _ _ H1 ((Go.rfl' fun i x h => .inl ⟨i, h⟩)) hh1 Kp.rfl' wk_str trivial⟩
  · cases e
theorem w_any (hK : c.K = X.K) (ha : PE X e (tV c W fa)) : PI X tg e (tI c W (itAny fa)) := PI_imp (PI_or (w_list hK ha) (w_str ha)) fun σ H K h => tI_or h
end VS
namespace VS
open PySem L2
theorem v_fail {c : Cn} {W : WX} {X : Cx} {e : Expr} : PE X e (tV c W M.fail) := ⟨fun pins s σ H Q I h => by
  obtain ⟨F, S, env, hh, res, e, q⟩ := h
  cases e⟩
theorem vt_fail {c : Cn} {W : WX} {X : Cx} {e : Expr} : PT X e (tVT c W M.fail) := ⟨fun pins s σ H Q I h => by
  obtain ⟨F, S, env, hh, res, e, q⟩ := h
  cases e⟩
theorem vs_fail {c : Cn} {W : WX} {X : Cx} {e : Stmt} : PS X e (tS c W M.fail) := ⟨fun pins s σ H D I h => by
  obtain ⟨F, S, env, hh, res, e, q⟩ := h
  cases e⟩
theorem w_fail {c : Cn} {W : WX} {X : Cx} {tg e : Expr} : PI X tg e (tI c W M.fail) := ⟨fun pins s σ H Q I h => by
  obtain ⟨F, S, env, hh, res, e, q⟩ := h
  cases e⟩
end VS
namespace VSRevT
open PySem PySem.Spec PyProof.Rows HT
variable {prog : Program} {w : World} {A : Around} {E : Value → Shared → Prop} {s : Shared}
theorem slicePart_3 {v : Value} {o : Option Int} {Q : Option Int → Shared → Prop} (p : IsPart v o) (h : Q o s) : wpAny (model prog w) A (Builtin.Slice.slicePartIndex v) Q E s := slicePart_ p h
theorem adjust_rev (n : Nat) : Builtin.Slice.sliceAdjust none none (-1) (n : Int) = ((n : Int) - 1, -1) := by
  unfold Builtin.Slice.sliceAdjust
  simp
theorem places_rev (n : Nat) : Builtin.Slice.slicePlaces ((n : Int) - 1) (-1) (-1) = n := by
  unfold Builtin.Slice.slicePlaces
  have h1 : ¬ ((-1 : Int) > 0) := by omega
  have h2 : (-(-1) : Int) = 1 := rfl
  simp only [h1, if_false, h2, Int.ediv_one]
  split <;> omega
theorem pick_rev (xs : Array Value) : ((List.range xs.size).filterMap fun (m : Nat) => xs[((xs.size : Int) - 1 + (m : Int) * (-1)).toNat]?).toArray = xs.toList.reverse.toArray := by
  congr 1
  apply List.ext_getElem?
  intro i
  have e : (List.range xs.size).filterMap (fun (m : Nat) => xs[((xs.size : Int) - 1 + (m : Int) * (-1)).toNat]?) = (List.range xs.size).map fun m => xs.toList.reverse[m]?.getD Value.none := by
    have key : ∀ l : List Nat, (∀ m ∈ l, m < xs.size) → l.filterMap (fun (m : Nat) => xs[((xs.size : Int) - 1 + (m : Int) * (-1)).toNat]?) = l.map fun m => xs.toList.reverse[m]?.getD Value.none := by
      intro l
      induction l with
      | nil => intro _; rfl
      | cons m l ih =>
        intro h
        have hm := h m (by simp)
        have e1 : ((xs.size : Int) - 1 + (m : Int) * (-1)).toNat = xs.size - 1 - m := by omega
        have e2 : xs.toList.reverse[m]? = xs[xs.size - 1 - m]? := by
          rw [List.getElem?_reverse (by simpa using hm)]
          simp
        rw [List.filterMap_cons, List.map_cons, ih fun k hk => h k (by simp [hk]), e1, e2, Array.getElem?_eq_getElem (by omega)]
        rfl
    exact key _ fun m hm => List.mem_range.mp hm
  rw [e, List.getElem?_map]
  by_cases hi : i < xs.size
  · rw [List.getElem?_range hi]
    have : i < xs.toList.reverse.length := by simpa using hi
    rw [List.getElem?_eq_getElem this]
    simp [List.getElem?_eq_getElem this]
  · rw [List.getElem?_eq_none (by simpa using hi), List.getElem?_eq_none (by simpa using hi)]
    rfl
theorem sliceApplied_rev {sl : Addr} {vs : Value} {n : Nat} {Q : Int × Int × Nat → Shared → Prop} (hs : s.heap.IsSliceOf sl .none .none vs) (ps : IsPart vs (some (-1)))
    (h : Q ((n : Int) - 1, -1, n) s) : wpAny (model prog w) A (Builtin.Slice.sliceApplied (.ref sl) (pure (n : Int))) Q E s := by
  obtain ⟨os, hos, hcs, hds⟩ := id hs
  unfold Builtin.Slice.sliceApplied Builtin.Slice.sliceFields
  refine wpAny_bind (wpAny_bind (wpAny_field hos hds (x := .none) rfl (wpAny_bind (wpAny_field hos hds (x := .none) rfl (wpAny_bind (wpAny_field hos hds (x := vs) rfl (wpAny_pure ?_)))))))
  refine wpAny_bind (slicePart_ ps ?_)
  show wpAny _ _ (if ((-1 : Int) == 0) = true then _ else _) _ _ s
  rw [if_neg (by decide)]
  refine wpAny_bind (slicePart_none (wpAny_bind (slicePart_none (wpAny_bind (wpAny_pure ?_)))))
  show wpAny _ _ (match Builtin.Slice.sliceAdjust none none (-1) (n : Int) with | (lo, hi) => pure (lo, (-1 : Int), Builtin.Slice.slicePlaces lo hi (-1))) _ _ s
  rw [adjust_rev n]
  show wpAny _ _ (pure ((n : Int) - 1, (-1 : Int), Builtin.Slice.slicePlaces ((n : Int) - 1) (-1) (-1))) _ _ s
  rw [places_rev]
  exact wpAny_pure h
theorem getItem_tuple_rev {t sl : Addr} {items : Array Value} {vs : Value} {Q : Value → Shared → Prop} (ht : IsTup s.heap t items) (hs : s.heap.IsSliceOf sl .none .none vs) (ps : IsPart vs (some (-1)))
    (h : Q (.ref s.heap.objs.size) { s with heap := s.heap.push { cls := .type "tuple", data := .seq items.toList.reverse.toArray } })
    (hsz : items.size ≤ sizeLine) : wpAny (model prog w) A (getItem (.ref t) (.ref sl)) Q E s := by
  have htake : sizeOk (.seq items.toList.reverse.toArray) := by
    show items.toList.reverse.toArray.size ≤ sizeLine
    rw [List.size_toArray, List.length_reverse, Array.length_toList]
    omega
  obtain ⟨os, hos, hcs, hds⟩ := id hs
  have hTs : s.TypeIs (.ref sl) "slice" := ⟨os, hos, hcs⟩
  unfold getItem
  try with_reducible refine wpAny_holding ?_
  first | refine wpAny_bind (wpAny_pure ?_) | skip
  refine wpAny_bind (wpAny_sequenceKey ht.typeIs (by decide) ?_)
  refine wpAny_bind (wpAny_callSpecial?_slot (name := Str.ofString "__getitem__") ht.typeIs PyProof.Rows.slot_tuple_getitem
    (wpAny_call_entry PyProof.Rows.slot_tuple_getitem ht.typeIs entry_tuple_getitem ?_ (args_tuple_getitem _ _)))
  show wpAny _ _ (Builtin.Tuple.tupleItemsOf (.ref t) >>= _) _ _ s
  refine wpAny_bind (tupleItemsOf_ ht ?_)
  refine wpAny_bind (wpAny_typeOf hTs ?_)
  rw [if_pos (by decide)]
  refine wpAny_bind (sliceApplied_rev hs ps ?_)
  have hno : ¬ ((((items.size : Int) - 1) == 0 && (-1 : Int) == 1 && items.size == items.size) = true) := by
    intro q
    rw [Bool.and_eq_true, Bool.and_eq_true] at q
    exact absurd q.1.2 (by decide)
  show wpAny _ _ (if (((items.size : Int) - 1) == 0 && (-1 : Int) == 1 && items.size == items.size) = true then _ else _) _ _ s
  rw [if_neg hno, pick_rev]
  first
    | exact wpAny_bind (m := Builtin.Tuple.tupleExact _) (wpAny_newObj_type (wpAny_pure ⟨_, rfl, wpAny_pure h⟩) htake)
    | exact wpAny_bind (m := Builtin.Tuple.tupleExact _) (wpAny_newObj_type (wpAny_bind (wpAny_pure (wpAny_pure ⟨_, rfl, wpAny_pure h⟩))) htake)
    | exact wpAny_bind (wpAny_bind (m := Builtin.Tuple.tupleExact _) (wpAny_newObj_type (wpAny_pure (wpAny_pure ⟨_, rfl, wpAny_pure h⟩)) htake))
    | exact wpAny_bind (wpAny_bind (m := Builtin.Tuple.tupleExact _) (wpAny_newObj_type (wpAny_pure ⟨_, rfl, wpAny_pure h⟩) htake))
end VSRevT
namespace VS
open PySem L2 PySem.Spec PyProof.Rows
variable {c : Cn} {W : WX} {F F' F1 F2 H H' H1 H2 : Hp} {S S' S1 S2 : Nat → Set1} {T T' T1 T2 : Set1} {σ σ' σ1 : L2.St} {r : R} {v : V} {env env' env1 : VEnv} {Q : VK} {fa fb fc : EV} {qa qb : Rd} {X : Cx} {tg e : Expr}
def rRev (K : PySem.W.Frag) : V → Hp → VK → Prop := fun x H Q => ∃ a xs, x = .ref a ∧ ((SqL K H a xs ∧ ∀ p, H p = none → Q (.ref p) (upd H p (.lst xs.reverse))) ∨ (SqT K H a xs ∧ ∀ p, H p = none → Q (.ref p) (upd H p (.tup xs.reverse))))
theorem pe_rev {te : TE} {k : Nat} {p1 p2 p3 pos : Pos} (he : PE X e te) : PE X (.Subscript e (.Slice none none (some (.UnaryOp .USub (.Constant (.int 1) k p1) p2)) p3) pos) (tUn (rRev X.K) te) := by
  refine ⟨fun pins s σ H Q I h => ?_⟩
  refine Subscript_ (thn (he.run pins s σ H _ I h) fun v s1 ⟨x, H1, I1, r1, q1⟩ => ?_)
  obtain ⟨a, xs, ex, hx⟩ := q1
  subst ex
  cases r1
  have hst : PO X (some (.UnaryOp .USub (.Constant (.int 1) k p1) p2)) (tPart (tUn (rU fun i => .int (-i)) (tC (.int 1)))) := po_some (pe_un un_neg pe_int)
  refine wpAny_Slice (thn (po_none.run pins s1 σ H1 (fun o H2 => o = none ∧ H2 = H1) I1 ⟨rfl, rfl⟩) fun vl s2 ⟨l, H2, I2, pl, el, e2⟩ => ?_)
  subst el e2
  refine thn (po_none.run pins s2 σ H2 (fun o H3 => o = none ∧ H3 = H2) I2 ⟨rfl, rfl⟩) fun vu s3 ⟨u, H3, I3, pu, eu, e3⟩ => ?_
  subst eu e3
  refine thn (hst.run pins s3 σ H3 (fun o H4 => o = some (-1) ∧ H4 = H3) I3 ⟨1, rfl, -1, rfl, rfl, rfl⟩) fun vs s4 ⟨o, H4, I4, ps, eo, e4⟩ => ?_
  subst eo e4
  have I5 : Inv X pins σ H4 { s4 with heap := s4.heap.push { cls := .type "slice", data := .fields #[vl, vu, vs] } } := I4.kept (t' := s4.toks) fun b ob q => Heap.get?_push_of_some _ q
  cases pl
  cases pu
  rcases hx with ⟨hx, q⟩ | ⟨hx, q⟩
  · obtain ⟨its, r, ht, hz⟩ := I5.list hx
    have hlen := r.length
    show wpAny (model X.prog X.w) X.A (subscriptTail e (.Slice none none (some (.UnaryOp .USub (.Constant (.int 1) k p1) p2)) p3) (.ref a) (.ref s4.heap.objs.size)) (EP X pins σ Q) X.xe { s4 with heap := s4.heap.push { cls := .type "slice", data := .fields #[.none, .none, vs] } }
    refine tail_any (ops := [.ref a, .ref s4.heap.objs.size]) ht.isList.typeIs (PySem.slot_list_getitem.lookup) ?_ (by with_unfolding_all rfl)
    refine wpAny_getItem_list_slice ht.isList (Heap.IsSliceOf.new _ .none .none vs) .none .none ps (by decide) ?_ (by rw [List.size_toArray]; omega)
    rw [PySem.W.krv_pick]
    refine ⟨.ref _, _, I5.laid (t' := s4.toks) (o := .lst xs.reverse) (fun b ob q => Heap.get?_push_of_some _ q) (Nat.le_refl _) ?_, rfl, q _ (I5.hok.fresh (Nat.le_refl _))⟩
    exact ⟨by rw [List.length_reverse]; exact hz, _, 0, r.reverse, Heap.get?_push_size _ rfl⟩
  · obtain ⟨its, r, ht, hz⟩ := I5.tuple hx
    have hlen := r.length
    show wpAny (model X.prog X.w) X.A (subscriptTail e (.Slice none none (some (.UnaryOp .USub (.Constant (.int 1) k p1) p2)) p3) (.ref a) (.ref s4.heap.objs.size)) (EP X pins σ Q) X.xe { s4 with heap := s4.heap.push { cls := .type "slice", data := .fields #[.none, .none, vs] } }
    refine tail_any (ops := [.ref a, .ref s4.heap.objs.size]) ht.typeIs (PyProof.Rows.slot_tuple_getitem.lookup) ?_ (by with_unfolding_all rfl)
    refine VSRevT.getItem_tuple_rev ht (Heap.IsSliceOf.new _ .none .none vs) ps ?_ (by rw [List.size_toArray]; omega)
    refine ⟨.ref _, _, I5.laid (t' := s4.toks) (o := .tup xs.reverse) (fun b ob q => Heap.get?_push_of_some _ q) (Nat.le_refl _) ?_, rfl, q _ (I5.hok.fresh (Nat.le_refl _))⟩
    exact ⟨by rw [List.length_reverse]; exact hz, _, r.reverse, IsTup.new _ _⟩
theorem rev_get {vs : List V} {ds : List D} (l : vs.length = ds.length) (hr : ∀ (k : Nat) v d, vs[k]? = some v → ds[k]? = some d → Rep c F v d) (k : Nat) (v : V) (d : D) (hv : vs.reverse[k]? = some v) (hd : ds.reverse[k]? = some d) : Rep c F v d := by
  have hk : k < vs.length := by have := (List.getElem?_eq_some_iff.mp hv).1; simpa using this
  rw [List.getElem?_reverse hk] at hv
  rw [List.getElem?_reverse (by omega), ← l] at hd
  exact hr _ v d hv hd
theorem op_rev : Op c (R1L (rRev c.K)) opRev := by
  intro F S env σ H rs vs Ts r' env' Q hh t hg q
  unfold opRev at hg
  split at hg
  · rename_i r1 en
    obtain ⟨v1, rfl, i1⟩ := one t
    split at hg
    · rename_i ds e1
      cases hg
      obtain ⟨a, us, rfl, ha, la, ra⟩ := items_lst hh i1 e1
      exact ⟨_, rfl, a, us, rfl, .inl ⟨.inl (.inl ha), out_lst hh (by simp [la]) (rev_get la ra) q⟩⟩
    · rename_i ds e1
      cases hg
      obtain ⟨a, us, rfl, ha, la, ra⟩ := items_tup hh i1 e1
      exact ⟨_, rfl, a, us, rfl, .inr ⟨sqT_up hh.ex ha, out_tup hh (by simp [la]) (rev_get la ra) q⟩⟩
    · cases hg
  · cases hg
theorem v_rev {k : Nat} {p1 p2 p3 pos : Pos} (hK : c.K = X.K) (ha : PE X e (tV c W fa)) : PE X (.Subscript e (.Slice none none (some (.UnaryOp .USub (.Constant (.int 1) k p1) p2)) p3) pos) (tV c W (eOp1 opRev fa)) :=
  PE_imp (pe_rev ha) fun σ H Q h => op1_ok (by rw [← hK]; exact op_rev) h
theorem small_two {a b : Int} (ha : -(2 ^ 62) ≤ a) (ha' : a < 2 ^ 62) (hb : -(2 ^ 62) ≤ b) (hb' : b < 2 ^ 62) : Builtin.Range.small a b 2 = true := by
  have e : Builtin.Range.rangeSize a b 2 = if a < b then (b - a - 1) / 2 + 1 else 0 := by
    unfold Builtin.Range.rangeSize
    simp only [show ((2 : Int) > 0) by decide, if_true]
  unfold Builtin.Range.small
  rw [e]
  simp only [Builtin.Range.rangeFitsLong, Bool.and_eq_true, Bool.or_eq_true, decide_eq_true_eq, beq_iff_eq, show ((2 : Int) > 0) by decide, if_true]
  split <;> omega
theorem bigI_iff {n : Int} (h : bigI n = true) : -(2 ^ 62) ≤ n ∧ n < 2 ^ 62 := by
  unfold bigI at h
  simpa using h
theorem rsz_eq (a b k : Int) : Builtin.Range.rangeSize a b k = rsz a b k := rfl
theorem rsz_nn {a b k : Int} (h : k = -1 ∨ k = 2) : ((rsz a b k).toNat : Int) = rsz a b k := by
  rcases h with rfl | rfl
  · rw [← rsz_eq, PySem.W.rangeSize_downNat]; rfl
  · unfold rsz
    simp only [show ((2 : Int) > 0) by decide, if_true]
    split <;> omega
theorem wk_rangeC {lo st : Int} {n : Nat} : Wk c (Itc lo st n) (rangeC lo st n) (fun _ => True) := by
  refine ⟨fun _ _ _ _ => trivial, fun i F H _ _ hi => by simpa [Itc, rangeC] using hi, fun F H _ _ => by simp [Itc, rangeC], fun i F H x H' d _ e y hd => ?_⟩
  obtain ⟨rfl, rfl⟩ := y
  unfold rangeC at hd
  rw [List.getElem?_map] at hd
  obtain ⟨k, hk, rfl⟩ := Option.map_eq_some_iff.mp hd
  obtain ⟨_, hk⟩ := List.getElem?_eq_some_iff.mp hk
  rw [List.getElem_range] at hk
  subst hk
  exact yl_same e (.int _)
theorem w_range3 {e1 e2 e3 : Expr} {p pos : Pos} (hg : Gl X "range") (hm : X.mg "range" = none) (ha : PE X e1 (tV c W fa)) (hb : PE X e2 (tV c W fb)) (hcc : PE X e3 (tV c W fc))
    (hs : starEach [e1, e2, e3] X.env = (false, eval e1 X.env) :: starEach [e2, e3] X.env := by rfl) (hs2 : starEach [e2, e3] X.env = (false, eval e2 X.env) :: starEach [e3] X.env := by rfl) (hs3 : starEach [e3] X.env = (false, eval e3 X.env) :: starEach [] X.env := by rfl) (hpl : (backTo pos (starEach [e2, e3] X.env)).any (·.1) = false := by rfl) :
    PI X tg (.Call (.Name "range" p) [e1, e2, e3] [] pos) (tI c W (itRange3 fa fb fc)) :=
  PI_imp (pi_range3 (ta := tCons (tV c W fa) (tCons (tV c W fb) (tCons (tV c W fc) tNil))) hg hm (pa_cons ha (pa_cons hb (pa_cons hcc pa_nil hs3) hs2) hs) hs hpl) fun σ H K h => by
    show tV c W fa σ H fun x H1 => tV c W fb σ H1 fun y H2 => tV c W fc σ H2 fun z H3 => _
    refine exprI h fun r e1 F1 S1 T1 v H1 res hh1 t1 e q => ?_
    rcases bind_some e with ⟨s, e2, h2, e⟩ | ⟨x, e2, h2, rfl⟩
    · refine ⟨F1, S1, e1, hh1, _, h2, fun F2 S2 T2 w H2 g2 hh2 k2 is2 => ?_⟩
      obtain ⟨t1', d12⟩ := t1.go g2 t1.offU
      have t2 : Temps c F2 S2 σ H2 [s] [w] _ := Temps.one is2 g2.dT g2.oT
      rcases bind_some e with ⟨u, e3, h3, e⟩ | ⟨x, e3, h3, rfl⟩
      · refine ⟨F2, S2, e2, hh2, _, h3, fun F3 S3 T3 w3 H3 g3 hh3 k3 is3 => ?_⟩
        obtain ⟨t1'', _⟩ := t1'.go g3 t1'.offU
        obtain ⟨t2', _⟩ := t2.go g3 t2.offU
        split at e
        · rename_i i j k _ _
          split at e
          · rename_i hb
            cases e
            have ro1 := t1''.at0
            have ro2 := t2'.at0
            cases ro1 with
            | val rp _ =>
              cases rp
              cases ro2 with
              | val rp _ =>
                cases rp
                cases is3 with
                | val rp _ =>
                  cases rp
                  simp only [Bool.and_eq_true, Bool.or_eq_true, beq_iff_eq] at hb
                  obtain ⟨⟨h1, h2⟩, hk⟩ := hb
                  have b1 := bigI_iff h1
                  have b2 := bigI_iff h2
                  refine ⟨i, j, k, (rsz i j k).toNat, rfl, ?_, ?_⟩
                  · refine ⟨by rcases hk with rfl | rfl <;> decide, by rcases hk with rfl | rfl <;> decide, ?_, by rw [rsz_eq, rsz_nn hk]⟩
                    rcases hk with rfl | rfl
                    · exact PySem.W.small_down b1.1 b1.2 b2.1 b2.2
                    · exact small_two b1.1 b1.2 b2.1 b2.2
                  · refine q F3 S3 _ (fun _ => True) H3 ?_ hh3 (k2.trans k3) wk_rangeC trivial
                    exact ((g2.transS g3).sub fun x h => h.elim).wide fun x h => .inl h
          · cases e
        · cases e
      · exact ⟨F2, S2, e2, hh2, _, h3, EndX_go g2 k2 q⟩
    · exact ⟨F1, S1, e1, hh1, _, h2, q⟩
theorem s_par {i j : Nat} {D : Ends} (h : tS c W (sPar i j fa fb) D σ H) : tPar i j (tVA c W (eArgs [fa, fb])) D σ H := by
  obtain ⟨F, S, env, hh, res, e, q⟩ := h
  rcases bind_some e with ⟨rs, e1, h1, e⟩ | ⟨x, e1, h1, rfl⟩
  · refine ⟨F, S, env, hh, _, h1, fun F1 S1 Ts vs H1 g1 hh1 k1 t1 => ?_⟩
    cases hs : settles rs e1 with
    | none => rw [hs] at e; cases e
    | some p =>
      obtain ⟨os, e2⟩ := p
      rw [hs] at e
      simp only [M.liftE] at e
      obtain ⟨e3, h3, e⟩ := Option.map_eq_some_iff.mp e
      cases e
      obtain ⟨F2, S2, hh2, t2, g2, k2⟩ := settles_ok hh1 t1 hs
      have lo : os.length = vs.length := by have := t2.len; simpa using this.symm
      have ht : TgsOk c [.name i, .name j] (gCons (gName i) (gCons (gName j) gNil)) := tgs_cons tg_name (tgs_cons tg_name tgs_nil)
      have := ht F2 S2 e2 σ H1 vs os Ts e3 (fun σ' H' => D.nx σ' H') hh2 lo.symm (fun k v o hv ho => t2.is k (.o o) v (by simp [ho]) hv) t2.dis (fun k i a ha => t2.offS k i a ha) (fun k a ha => t2.offF k a ha) (fun k a ha => by have := t2.bd k a ha; simpa using this) h3 fun S3 σ3 g3 hh3 k3 _ => ?_
      · obtain ⟨v, r, e1, v2, r2, e2, e3, z⟩ := this
        subst e1
        subst e2
        subst e3
        exact ⟨v, v2, rfl, z⟩
      · refine q F2 S3 noT σ3 H1 ?_ hh3 ((k1.trans k2).trans k3)
        exact (g1.add (T' := un Ts) g2 (fun x h => .inl h) (fun x h => .inl h) (fun x ⟨k, h⟩ => t2.offF k x h) fun i x ⟨k, h⟩ => t2.offS k i x h).trans g3 fun x h => h
  · exact ⟨F, S, env, hh, _, h1, EndX_S q⟩
theorem vs_par {i j : Nat} {x y : Str} {a b : Expr} {px py pt pos : Pos} {kt k2 pt2} (hc : X.calm = true) (hN : X.N.Nodup) (hi : X.N[i]? = some x) (hj : X.N[j]? = some y) (hij : i ≠ j)
    (hx : X.env.scope.names.lookup x = some .local) (hy : X.env.scope.names.lookup y = some .local) (ha : PE X a (tV c W fa)) (hb : PE X b (tV c W fb))
    (hw : swappedStores [.Tuple [.Name x px, .Name y py] kt pt] (.Tuple [a, b] k2 pt2) X.env = pure (some [x, y]))
    (hs : swapsWithSole [.Tuple [.Name x px, .Name y py] kt pt] (.Tuple [a, b] k2 pt2) pos.line X.env = pure false := by rfl)
    (he : starEach [a, b] X.env = (false, eval a X.env) :: starEach [b] X.env := by rfl) (he2 : starEach [b] X.env = (false, eval b X.env) :: starEach [] X.env := by rfl) :
    PS X (.Assign [.Tuple [.Name x px, .Name y py] kt pt] (.Tuple [a, b] k2 pt2) pos) (tS c W (sPar i j fa fb)) :=
  PS_imp (ps_par hc hN hi hj hij hx hy (v_cons ha (v_cons hb v_nil he2) he) hw hs) fun D σ H h => s_par h
end VS
namespace VS
open PySem L2
variable {c : Cn} {W : WX} {F F' F1 F2 H H' H1 H2 : Hp} {S S' S1 S2 : Nat → Set1} {T T' T1 T2 : Set1} {σ σ' σ1 : L2.St} {r : R} {v : V} {env env' env1 : VEnv} {Q : VK} {fa fb fc : EV} {qa qb : Rd} {X : Cx} {tg e : Expr}
theorem Hold.freezeItems {i : Nat} {os : List O} (hh : Hold c F S env σ H) (h : env[i]? = some (Cell.loc (.lst os))) :
    ∃ F' a vs, σ[i]? = some (some (.ref a)) ∧ H a = some (.lst vs) ∧ vs.length = os.length ∧ (∀ (k : Nat) v o, vs[k]? = some v → os[k]? = some o → Rep c F' v o.data) ∧
      Hold c F' (setS S i (fun x => x = a)) (env.set i (.loc (.lst (os.map fun o => .val o.data)))) σ H ∧ Go F (un S) H F' (setS S i (fun x => x = a)) noT H := by
  have ha := at_loc h
  have il := at_lt ha
  obtain ⟨a, vs, Ts, l⟩ := hh.lat ha
  obtain ⟨F', hF1, hF2⟩ : ∃ F' : Hp, (∀ x, un Ts x → F' x = H x) ∧ (∀ x, ¬ un Ts x → F' x = F x) := by
    refine ⟨fun x => @ite _ (un Ts x) (Classical.propDecidable _) (H x) (F x), fun x hx => ?_, fun x hx => ?_⟩
    · exact if_pos hx
    · exact if_neg hx
  have inS : ∀ x, un Ts x → S i x := fun x ⟨k, hk⟩ => (l.all x).mpr (.inr ⟨k, hk⟩)
  have eF : Same F F' := fun b u e => by
    rw [hF2 b fun hs => by rw [hh.off i b (inS b hs)] at e; cases e]
    exact e
  have eH : Same F' H := fun b u e => by
    by_cases hs : un Ts b
    · rw [hF1 b hs] at e; exact e
    · rw [hF2 b hs] at e; exact hh.ex b u e
  have rp : ∀ (k : Nat) v o, vs[k]? = some v → os[k]? = some o → Rep c F' v o.data := fun k v o hv ho => (l.ro k v o hv ho).rep eF fun x u hx hu => by rw [hF1 x ⟨k, hx⟩]; exact hu
  have na : ¬ un Ts a := fun ⟨k, hk⟩ => (l.bd k a hk).1 rfl
  have Fa : F' a = none := by rw [hF2 a na]; exact hh.off i a ((l.all a).mpr (.inl rfl))
  have Sa : S i a := (l.all a).mpr (.inl rfl)
  refine ⟨F', a, vs, l.sl, l.ob, l.len, rp, ?_, ⟨eF, fun x u hu _ => hu, fun j x hx => ?_, fun x hx => hx.elim, fun x hx => ?_, fun j x hx => hx.elim, fun x hx => hx.elim⟩⟩
  · refine hh.one (T := fun x => x = a) eF eH (fun j x u _ _ hu => hu) (fun j x hj hs => ?_) (by simp) rfl (fun j hj => List.getElem?_set_ne (Ne.symm hj)) (fun _ _ => rfl) (fun o' ho' => ?_) (fun x hx => ⟨_, at_loc (List.getElem?_set_self il)⟩) (fun j x hj hx hs => ?_) (fun x hx => by subst hx; exact Fa)
    · rw [hF2 x fun hi => hj (hh.dis j i x hs (inS x hi))]
      exact hh.off j x hs
    · have e : o' = .lst (os.map fun o => .val o.data) := by
        rw [at_loc (List.getElem?_set_self il)] at ho'
        exact (Option.some.inj ho').symm
      subst e
      refine ⟨_, l.sl, .lst (fun _ => noT) l.ob (by rw [List.length_map]; exact l.len) (fun k v o hv ho => ?_) (fun i j x h => h.elim) (fun k x h => h.elim) fun x => ⟨.inl, fun h => h.elim id fun ⟨k, z⟩ => z.elim⟩⟩
      rw [List.getElem?_map] at ho
      obtain ⟨o1, ho1, rfl⟩ := Option.map_eq_some_iff.mp ho
      exact .val (rp k v o1 hv ho1) fun x h => h
    · subst hx
      exact hj (hh.dis j i x hs Sa)
  · by_cases e : j = i
    · subst e; rw [setS_at] at hx; subst hx; exact .inl ⟨j, Sa⟩
    · rw [setS_ne e] at hx; exact .inl ⟨j, hx⟩
  · by_cases hs : un Ts x
    · exact .inr (.inl ⟨i, inS x hs⟩)
    · rw [hF2 x hs] at hx; exact .inl hx
theorem op_ixB : Op c (R2L (rIx c.K)) opIxB := by
  intro F S env σ H rs vs Ts r' env' Q hh t hg q
  unfold opIxB at hg
  split at hg
  · rename_i en i r2
    obtain ⟨v1, v2, rfl, i1, i2⟩ := two (rs := []) t
    split at hg
    · rename_i k os e2 hc
      have rp2 := i2.rep hh e2
      cases rp2
      obtain ⟨o, ho, e⟩ := Option.map_eq_some_iff.mp hg
      cases e
      obtain ⟨F1, a, us, hs, hH, hl, rp, hh1, g1⟩ := hh.freezeItems hc
      have e1 : v1 = .ref a := by have := i1.1; rw [hs] at this; cases this; rfl
      subst e1
      unfold atD at ho
      obtain ⟨j, hj, hd⟩ := Option.bind_eq_some_iff.mp ho
      obtain ⟨v, d', hv, hd'⟩ := get_of_lt hl (ixN_lt hj)
      rw [hd] at hd'
      cases hd'
      refine ⟨_, _, rfl, .inl ⟨_, _, k, v, rfl, rfl, .inl (.inl hH), by unfold atI; rw [hl, ← ixN_eq, hj]; exact hv, ?_⟩⟩
      exact q F1 _ noT v H (g1.wide fun x h => .inl h) hh1 Kp_setloc (RO.val (rp j v o hv hd) fun x h => h)
    · cases hg
  · cases hg
theorem v_ixG2 {a b : Expr} {pos : Pos} (hK : c.K = X.K) (ha : PE X a (tV c W fa)) (hb : PE X b (tV c W fb)) (hp : PlainIx b) : PE X (.Subscript a b pos) (tV c W (eOp2 gIx2 fa fb)) :=
  PE_imp (pe_ix ix_seq ha hb hp) fun σ H Q h => op2_ok (op_mono (op_or (op_or (by rw [← hK]; exact op_ixO) (by rw [← hK]; exact op_ixT)) (by rw [← hK]; exact op_ixB)) fun vs H Q h => h.elim (fun h => h.elim id id) id) h
end VS
namespace VS
def scK : D → Bool
  | .int _ => true
  | .str _ => true
  | _ => false
def okKey : Bool → D → Bool
  | false, d => scK d
  | true, .tup ds => ds.all scK
  | true, _ => false
def scB : D → D → Bool
  | .int i, .int j => decide (i = j)
  | .str s, .str t => decide (s = t)
  | _, _ => false
def scBs : List D → List D → Bool
  | [], [] => true
  | x :: xs, y :: ys => scB x y && scBs xs ys
  | _, _ => false
def keyB : D → D → Bool
  | .tup xs, .tup ys => scBs xs ys
  | .int i, .int j => decide (i = j)
  | .str s, .str t => decide (s = t)
  | _, _ => false
def lookK {α : Type} (ks : List (D × α)) (k : D) : Option α := (ks.find? fun p => keyB p.1 k).map (·.2)
def putKD {α : Type} (ks : List (D × α)) (k : D) (x : α) : List (D × α) := if (ks.any fun p => keyB p.1 k) = true then ks.map fun p => if keyB p.1 k = true then (p.1, x) else p else ks ++ [(k, x)]
def O.dget (o : O) (k : D) : Option (Option O) := match o with
  | .val (.dct t ks) => if okKey t k = true then some ((lookK ks k).map .val) else none
  | .dct t ks => if okKey t k = true then some (lookK ks k) else none
  | _ => none
def opIxD : List R → VEnv → Option (R × VEnv)
  | [r1, r2], env => match r1.own env, r2.data env with
    | some o, some k => match o.dget k with
      | some (some (.val d)) => some (.o (.val d), env)
      | _ => none
    | _, _ => none
  | _, _ => none
def opGet1 : List R → VEnv → Option (R × VEnv)
  | [r1, r2], env => match r1.own env, r2.data env with
    | some o, some k => match o.dget k with
      | some (some (.val d)) => some (.o (.val d), env)
      | some none => some (.o (.val .non), env)
      | _ => none
    | _, _ => none
  | _, _ => none
def opGet2 : List R → VEnv → Option (R × VEnv)
  | [r1, r2, .o (.val z)], env => match r1.own env, r2.data env with
    | some o, some k => match o.dget k with
      | some (some (.val d)) => some (.o (.val d), env)
      | some none => some (.o (.val z), env)
      | _ => none
    | _, _ => none
  | _, _ => none
def opInD (neg : Bool) : List R → VEnv → Option (R × VEnv)
  | [r2, r1], env => match r1.own env, r2.data env with
    | some o, some k => match o.dget k with
      | some x => some (.o (.val (.bl (neg != x.isSome))), env)
      | _ => none
    | _, _ => none
  | _, _ => none
def isDctR (r : R) (env : VEnv) : Bool := match r.own env with
  | some (.val (.dct _ _)) => true
  | some (.dct _ _) => true
  | _ => false
def O.kid : O → Nat → Option O
  | .val _, _ => none
  | .lst os, k => os[k]?
  | .tup os, k => os[k]?
  | .dct _ ks, k => (ks[k]?).map (·.2)
  | .ins _ fs, k => (fs[k]?).map (·.2)
def O.setKid : O → Nat → O → O
  | .val d, _, _ => .val d
  | .lst os, k, x => .lst (os.set k x)
  | .tup os, k, x => .tup (os.set k x)
  | .dct t ks, k, x => match ks[k]? with
    | some p => .dct t (ks.set k (p.1, x))
    | none => .dct t ks
  | .ins c fs, k, x => match fs[k]? with
    | some p => .ins c (fs.set k (p.1, x))
    | none => .ins c fs
def O.get : O → List Nat → Option O
  | o, [] => some o
  | o, k :: p => (o.kid k).bind fun x => x.get p
def O.put : O → List Nat → O → O
  | _, [], x => x
  | o, k :: p, x => match o.kid k with
    | some y => o.setKid k (y.put p x)
    | none => o
abbrev Pl := VEnv → Option (Nat × List Nat)
def VEnv.atP (env : VEnv) (i : Nat) (p : List Nat) : Option O := (env.at i).bind fun o => o.get p
def VEnv.putP (env : VEnv) (i : Nat) (p : List Nat) (x : O) : VEnv := match env.at i with
  | some o => env.put i (o.put p x)
  | none => env
def plVar (i : Nat) : Pl := fun _ => some (i, [])
def fldAt {α : Type} (n : Nat) (fs : List (Nat × α)) : Option Nat := fs.findIdx? fun p => p.1 == n
def plFld (cn n : Nat) (pl : Pl) : Pl := fun env => match pl env with
  | some (i, p) => match env.atP i p with
    | some (.ins c fs) => if c = cn then (fldAt n fs).map fun k => (i, p ++ [k]) else none
    | _ => none
  | none => none
def plIx (pl : Pl) (q : Rd) : Pl := fun env => match pl env, q env with
  | some (i, p), some (.val (.int j)) => match env.atP i p with
    | some (.lst os) => (ixN' os.length j).map fun k => (i, p ++ [k])
    | _ => none
  | _, _ => none
def opFld (cn n : Nat) : List R → VEnv → Option (R × VEnv)
  | [.o (.val (.ins c fs))], env => if c = cn then (fs.lookup n).map fun d => (.o (.val d), env) else none
  | [.b i], env => match env.at i with
    | some (.ins c fs) => if c = cn then match fldAt n fs with
        | some k => match fs[k]? with
          | some (_, o) => some (.o (.val o.data), env.putP i [k] (.val o.data))
          | none => none
        | none => none
      else none
    | _ => none
  | _, _ => none
def qFld (cn n : Nat) (q : Rd) : Rd := fun env => match q env with
  | some (.val (.ins c fs)) => if c = cn then (fs.lookup n).map .val else none
  | some (.ins c fs) => if c = cn then fs.lookup n else none
  | _ => none
def qKey (q k : Rd) : Rd := fun env => match q env, k env with
  | some o, some k => (o.dget k.data).bind id
  | _, _ => none
def putFd {α : Type} (n : Nat) (x : α) : List (Nat × α) → List (Nat × α)
  | [] => [(n, x)]
  | (m, y) :: r => if m = n then (m, x) :: r else (m, y) :: putFd n x r
def sSetF (pl : Pl) (cn n : Nat) (a : EV) : SV1 := M.bind a fun r => fun env => match r.settle env with
  | some (x, e1) => match pl e1 with
    | some (i, p) => match e1.atP i p with
      | some (.ins c fs) => if c = cn ∧ fs.length < 1000 then some (.ok .nx (e1.putP i p (.ins c (putFd n x fs)))) else none
      | _ => none
    | none => none
  | none => none
def sSetK (pl : Pl) (q : Rd) (a : EV) : SV1 := M.bind a fun r => fun env => match r.settle env with
  | some (x, e1) => match pl e1, q e1 with
    | some (i, p), some k => match e1.atP i p with
      | some (.dct t ks) => if okKey t k.data = true ∧ ks.length < maxLen then some (.ok .nx (e1.putP i p (.dct t (putKD ks k.data (.val x.data))))) else none
      | _ => none
    | _, _ => none
  | none => none
def mkFn (n : Nat) (g : Fn) : Fn := fun os => match g (.ins n [] :: os) with
  | some (.ret (.val .non) (o :: os')) => some (.ret o os')
  | some (.ex e (_ :: os')) => some (.ex e os')
  | _ => none
def eMake (n : Nat) (ms : List Bool) (g : Fn) (as : List EV) : EV := eCall ms (mkFn n g) as
def isInsR (cn m : Nat) (r : R) (env : VEnv) : Bool := match r.own env with
  | some (.val (.ins c fs)) => decide (c = cn) && (fs.lookup m).isNone
  | some (.ins c fs) => decide (c = cn) && (fs.lookup m).isNone
  | _ => false
def eMeth (cn m : Nat) (ms : List Bool) (g : Fn) (a : EV) (as : List EV) : EV := M.bind a fun r => fun en => if isInsR cn m r en = true then M.bind (eArgs as) (fun rs => callE ms g (r :: rs)) en else none
end VS
namespace VS
def sndW : D → Option (List Int)
  | .tup [_, .tup ds] => allInt ds
  | _ => none
def wordLeD (p q : D × List Int) : Bool := decide (p.2 ≤ q.2)
def opSortSnd : List R → VEnv → Option (R × VEnv)
  | [r], env => match r.items env with
    | some (true, ds) => match ds.mapM sndW with
      | some ws => if (ws.all fun w => !w.isEmpty) = true then some (.o (oLst (((ds.zip ws).mergeSort wordLeD).map (·.1))), env) else none
      | none => none
    | _ => none
  | _, _ => none
end VS
namespace VS
def itKeysF (cn n i : Nat) : M (List D) := fun env => match env.at i with
  | some (.val (.ins c fs)) => if c = cn then match fs.lookup n with
      | some (.dct _ ks) => some (.ok (ks.map (·.1)) env)
      | _ => none
    else none
  | _ => none
end VS
namespace VS
open PySem L2
variable {c : Cn} {W : WX} {F F' F1 F2 H H' H1 H2 : Hp} {S S' S1 S2 : Nat → Set1} {T T' T1 T2 : Set1} {σ σ' σ1 : L2.St} {r : R} {v : V} {env env' env1 : VEnv} {Q : VK} {fa fb fc : EV} {qa qb : Rd} {X : Cx} {tg e : Expr}
def kS (S : Nat → Set1) (k : Nat) (T1 : Set1) : Nat → Set1 := fun j x => if j = k then T1 x else S j x
structure KS (S : Nat → Set1) (A T : Set1) (n : Nat) : Prop where
  dj : ∀ i j x, S i x → S j x → i = j
  bd : ∀ k x, S k x → ¬ A x ∧ k < n
  all : ∀ x, T x ↔ A x ∨ ∃ k, S k x
theorem KS.put {A : Set1} {n k : Nat} (h : KS S A T n) (hk : k < n) (ht : ∀ x, T1 x → S k x ∨ ¬ T x) : KS (kS S k T1) A (fun x => (T x ∧ ¬ S k x) ∨ T1 x) n := by
  refine ⟨fun i j x hi hj => ?_, fun j x hx => ?_, fun x => ⟨fun hx => ?_, fun hx => ?_⟩⟩
  · unfold kS at hi hj
    split at hi
    · split at hj
      · omega
      · rename_i e1 e2
        rcases ht x hi with h1 | h1
        · exact absurd (h.dj _ _ x hj h1) e2
        · exact absurd ((h.all x).mpr (.inr ⟨j, hj⟩)) h1
    · split at hj
      · rename_i e1 e2
        rcases ht x hj with h1 | h1
        · exact absurd (h.dj _ _ x hi h1) e1
        · exact absurd ((h.all x).mpr (.inr ⟨i, hi⟩)) h1
      · exact h.dj _ _ x hi hj
  · unfold kS at hx
    split at hx
    · rename_i e1
      subst e1
      refine ⟨fun ha => ?_, hk⟩
      rcases ht x hx with h1 | h1
      · exact (h.bd _ x h1).1 ha
      · exact h1 ((h.all x).mpr (.inl ha))
    · exact h.bd j x hx
  · rcases hx with ⟨h1, h2⟩ | h1
    · rcases (h.all x).mp h1 with h3 | ⟨j, h3⟩
      · exact .inl h3
      · refine .inr ⟨j, ?_⟩
        unfold kS
        rw [if_neg (fun e => h2 (by rw [← e]; exact h3))]
        exact h3
    · refine .inr ⟨k, ?_⟩
      unfold kS
      rw [if_pos rfl]; exact h1
  · rcases hx with h1 | ⟨j, h1⟩
    · exact .inl ⟨(h.all x).mpr (.inl h1), fun h2 => (h.bd k x h2).1 h1⟩
    · unfold kS at h1
      split at h1
      · exact .inr h1
      · rename_i e1
        exact .inl ⟨(h.all x).mpr (.inr ⟨j, h1⟩), fun h2 => e1 (h.dj _ _ x h1 h2)⟩
theorem kS_self {k : Nat} : kS S k T1 k = T1 := funext fun x => by unfold kS; rw [if_pos rfl]
theorem kS_ne {j k : Nat} (h : j ≠ k) : kS S k T1 j = S j := funext fun x => by unfold kS; rw [if_neg h]
theorem kid_part {vs : List V} {os : List O} {k : Nat} {v1 : V} {o1 : O} {A : Set1} {n : Nat} (hS : KS S A T n) (hv : vs[k]? = some v1) (hr : ∀ (k : Nat) v o, vs[k]? = some v → os[k]? = some o → RO c F H v o (S k))
    (e : Same F F') (kp : ∀ x u, T x → ¬ S k x → H x = some u → H' x = some u) (ro : RO c F' H' v1 o1 T1) : ∀ (j : Nat) v o, vs[j]? = some v → (os.set k o1)[j]? = some o → RO c F' H' v o (kS S k T1 j) := by
  intro j v o hv' ho
  by_cases hj : j = k
  · subst hj
    rw [hv] at hv'
    cases hv'
    rw [kS_self]
    by_cases hl : j < os.length
    · rw [List.getElem?_set_self hl] at ho
      cases ho
      exact ro
    · rw [List.getElem?_eq_none (by rw [List.length_set]; omega)] at ho
      cases ho
  · rw [kS_ne hj]
    rw [List.getElem?_set_ne (Ne.symm hj)] at ho
    exact (hr j v o hv' ho).up e fun x u hx hu => kp x u ((hS.all x).mpr (.inr ⟨j, hx⟩)) (fun h => hj (hS.dj _ _ x hx h)) hu
def vKid (H : Hp) (a : Addr) (k : Nat) : Option V := match H a with
  | some (.lst vs) => vs[k]?
  | some (.tup vs) => vs[k]?
  | some (.dK kvs) => (kvs[k]?).map (·.2)
  | some (.dT kvs) => (kvs[k]?).map (·.2)
  | some (.ins _ _ fs) => (fs[k]?).map (·.2)
  | _ => none
inductive VP (F H : Hp) : V → List Nat → V → Prop
  | nil {v : V} : VP F H v [] v
  | cons {a : Addr} {k : Nat} {v1 v2 : V} {p : List Nat} : (vKid H a k = some v1 ∨ vKid F a k = some v1) → VP F H v1 p v2 → VP F H (.ref a) (k :: p) v2
theorem RO.sub1 {o o1 : O} {k : Nat} (ro : RO c F H v o T) (h : o.kid k = some o1) : ∃ v1 T1, RO c F H v1 o1 T1 ∧ (∀ x, T1 x → T x) ∧ (∃ a, v = .ref a ∧ (vKid H a k = some v1 ∨ vKid F a k = some v1)) ∧
    ∀ F' H' o1' T1', Same F F' → (∀ x u, T x → ¬ T1 x → H x = some u → H' x = some u) → RO c F' H' v1 o1' T1' → (∀ x, T1' x → T1 x ∨ ¬ T x) → RO c F' H' v (o.setKid k o1') (fun x => (T x ∧ ¬ T1 x) ∨ T1' x) := by
  cases ro with
  | val rp hn => cases h
  | @lst a vs os T S hH hl hr dj bd hT =>
    have h' : os[k]? = some o1 := h
    have hk : k < os.length := (List.getElem?_eq_some_iff.mp h').1
    obtain ⟨v1, o1', hv, ho⟩ := get_of_lt hl hk
    rw [h'] at ho
    cases ho
    have hS : KS S (fun x => x = a) T os.length := ⟨dj, bd, hT⟩
    refine ⟨v1, S k, hr k v1 o1 hv h', fun x hx => (hT x).mpr (.inr ⟨k, hx⟩), ⟨a, rfl, .inl (by unfold vKid; rw [hH]; exact hv)⟩, fun F' H' o2 T2 e kp ro2 ht => ?_⟩
    have hS2 := hS.put hk ht
    refine .lst (kS S k T2) (kp a _ ((hT a).mpr (.inl rfl)) (fun z => (bd k a z).1 rfl) hH) (by rw [List.length_set]; exact hl) (kid_part hS hv hr e kp ro2) hS2.dj (fun j x hx => by rw [List.length_set]; exact hS2.bd j x hx) hS2.all
  | @tup a vs os T S hH hl hr dj bd hT =>
    have h' : os[k]? = some o1 := h
    have hk : k < os.length := (List.getElem?_eq_some_iff.mp h').1
    obtain ⟨v1, o1', hv, ho⟩ := get_of_lt hl hk
    rw [h'] at ho
    cases ho
    have hS : KS S (fun _ => False) T os.length := ⟨dj, fun j x hx => ⟨fun z => z, bd j x hx⟩, fun x => by rw [hT x]; simp⟩
    refine ⟨v1, S k, hr k v1 o1 hv h', fun x hx => (hT x).mpr ⟨k, hx⟩, ⟨a, rfl, .inr (by unfold vKid; rw [hH]; exact hv)⟩, fun F' H' o2 T2 e kp ro2 ht => ?_⟩
    have hS2 := hS.put hk ht
    refine .tup (kS S k T2) (e _ _ hH) (by rw [List.length_set]; exact hl) (kid_part hS hv hr e kp ro2) hS2.dj (fun j x hx => by rw [List.length_set]; exact (hS2.bd j x hx).2) fun x => by rw [hS2.all x]; simp
  | @dK a kvs ks T S hH hl hk0 hr dj bd hT =>
    obtain ⟨p, hp, rfl⟩ := Option.map_eq_some_iff.mp (show (ks[k]?).map (·.2) = some o1 from h)
    have hk : k < ks.length := (List.getElem?_eq_some_iff.mp hp).1
    obtain ⟨kv, p', hkv, hp'⟩ := get_of_lt hl hk
    rw [hp] at hp'
    cases hp'
    have hS : KS S (fun x => x = a) T ks.length := ⟨dj, bd, hT⟩
    refine ⟨kv.2, S k, hr k kv p hkv hp, fun x hx => (hT x).mpr (.inr ⟨k, hx⟩), ⟨a, rfl, .inl (by unfold vKid; rw [hH]; show (kvs[k]?).map (·.2) = _; rw [hkv]; rfl)⟩, fun F' H' o2 T2 e kp ro2 ht => ?_⟩
    have hS2 := hS.put hk ht
    have es : (O.dct false ks).setKid k o2 = .dct false (ks.set k (p.1, o2)) := by simp only [O.setKid, hp]
    rw [es]
    refine .dK (kS S k T2) (kp a _ ((hT a).mpr (.inl rfl)) (fun z => (bd k a z).1 rfl) hH) (by rw [List.length_set]; exact hl) (fun j kv2 kd hv' hd => ?_) (fun j kv2 kd hv' hd => ?_) hS2.dj (fun j x hx => by rw [List.length_set]; exact hS2.bd j x hx) hS2.all
    · by_cases hj : j = k
      · subst hj
        rw [List.getElem?_set_self hk] at hd
        cases hd
        exact hk0 j kv2 p hv' hp
      · rw [List.getElem?_set_ne (Ne.symm hj)] at hd
        exact hk0 j kv2 kd hv' hd
    · by_cases hj : j = k
      · subst hj
        rw [List.getElem?_set_self hk] at hd
        cases hd
        rw [hkv] at hv'
        cases hv'
        rw [kS_self]
        exact ro2
      · rw [List.getElem?_set_ne (Ne.symm hj)] at hd
        rw [kS_ne hj]
        exact (hr j kv2 kd hv' hd).up e fun x u hx hu => kp x u ((hS.all x).mpr (.inr ⟨j, hx⟩)) (fun h => hj (hS.dj _ _ x hx h)) hu
  | @dT a kvs ks T S hH hl hk0 hr dj bd hT =>
    obtain ⟨p, hp, rfl⟩ := Option.map_eq_some_iff.mp (show (ks[k]?).map (·.2) = some o1 from h)
    have hk : k < ks.length := (List.getElem?_eq_some_iff.mp hp).1
    obtain ⟨kv, p', hkv, hp'⟩ := get_of_lt hl hk
    rw [hp] at hp'
    cases hp'
    have hS : KS S (fun x => x = a) T ks.length := ⟨dj, bd, hT⟩
    refine ⟨kv.2, S k, hr k kv p hkv hp, fun x hx => (hT x).mpr (.inr ⟨k, hx⟩), ⟨a, rfl, .inl (by unfold vKid; rw [hH]; show (kvs[k]?).map (·.2) = _; rw [hkv]; rfl)⟩, fun F' H' o2 T2 e kp ro2 ht => ?_⟩
    have hS2 := hS.put hk ht
    have es : (O.dct true ks).setKid k o2 = .dct true (ks.set k (p.1, o2)) := by simp only [O.setKid, hp]
    rw [es]
    refine .dT (kS S k T2) (kp a _ ((hT a).mpr (.inl rfl)) (fun z => (bd k a z).1 rfl) hH) (by rw [List.length_set]; exact hl) (fun j kv2 kd hv' hd => ?_) (fun j kv2 kd hv' hd => ?_) hS2.dj (fun j x hx => by rw [List.length_set]; exact hS2.bd j x hx) hS2.all
    · by_cases hj : j = k
      · subst hj
        rw [List.getElem?_set_self hk] at hd
        cases hd
        exact hk0 j kv2 p hv' hp
      · rw [List.getElem?_set_ne (Ne.symm hj)] at hd
        exact hk0 j kv2 kd hv' hd
    · by_cases hj : j = k
      · subst hj
        rw [List.getElem?_set_self hk] at hd
        cases hd
        rw [hkv] at hv'
        cases hv'
        rw [kS_self]
        exact ro2
      · rw [List.getElem?_set_ne (Ne.symm hj)] at hd
        rw [kS_ne hj]
        exact (hr j kv2 kd hv' hd).up e fun x u hx hu => kp x u ((hS.all x).mpr (.inr ⟨j, hx⟩)) (fun h => hj (hS.dj _ _ x hx h)) hu
  | @ins a C dx n kvs ks T S hc hH hl hk0 hr dj bd hT =>
    obtain ⟨p, hp, rfl⟩ := Option.map_eq_some_iff.mp (show (ks[k]?).map (·.2) = some o1 from h)
    have hk : k < ks.length := (List.getElem?_eq_some_iff.mp hp).1
    obtain ⟨kv, p', hkv, hp'⟩ := get_of_lt hl hk
    rw [hp] at hp'
    cases hp'
    have hS : KS S (fun x => x = a) T ks.length := ⟨dj, bd, hT⟩
    refine ⟨kv.2, S k, hr k kv p hkv hp, fun x hx => (hT x).mpr (.inr ⟨k, hx⟩), ⟨a, rfl, .inl (by unfold vKid; rw [hH]; show (kvs[k]?).map (·.2) = _; rw [hkv]; rfl)⟩, fun F' H' o2 T2 e kp ro2 ht => ?_⟩
    have hS2 := hS.put hk ht
    have es : (O.ins n ks).setKid k o2 = .ins n (ks.set k (p.1, o2)) := by simp only [O.setKid, hp]
    rw [es]
    refine .ins (kS S k T2) hc (kp a _ ((hT a).mpr (.inl rfl)) (fun z => (bd k a z).1 rfl) hH) (by rw [List.length_set]; exact hl) (fun j kv2 kd hv' hd => ?_) (fun j kv2 kd hv' hd => ?_) hS2.dj (fun j x hx => by rw [List.length_set]; exact hS2.bd j x hx) hS2.all
    · by_cases hj : j = k
      · subst hj
        rw [List.getElem?_set_self hk] at hd
        cases hd
        exact hk0 j kv2 p hv' hp
      · rw [List.getElem?_set_ne (Ne.symm hj)] at hd
        exact hk0 j kv2 kd hv' hd
    · by_cases hj : j = k
      · subst hj
        rw [List.getElem?_set_self hk] at hd
        cases hd
        rw [hkv] at hv'
        cases hv'
        rw [kS_self]
        exact ro2
      · rw [List.getElem?_set_ne (Ne.symm hj)] at hd
        rw [kS_ne hj]
        exact (hr j kv2 kd hv' hd).up e fun x u hx hu => kp x u ((hS.all x).mpr (.inr ⟨j, hx⟩)) (fun h => hj (hS.dj _ _ x hx h)) hu
theorem RO.sub : ∀ (p : List Nat) {v : V} {o o1 : O} {T : Set1}, RO c F H v o T → o.get p = some o1 → ∃ v1 T1, RO c F H v1 o1 T1 ∧ (∀ x, T1 x → T x) ∧ VP F H v p v1 ∧
    ∀ F' H' o1' T1', Same F F' → (∀ x u, T x → ¬ T1 x → H x = some u → H' x = some u) → RO c F' H' v1 o1' T1' → (∀ x, T1' x → T1 x ∨ ¬ T x) → RO c F' H' v (o.put p o1') (fun x => (T x ∧ ¬ T1 x) ∨ T1' x)
  | [], v, o, o1, T, ro, h => by
    cases h
    refine ⟨v, T, ro, fun x h => h, .nil, fun F' H' o2 T2 e kp ro2 ht => ?_⟩
    have : (fun x => (T x ∧ ¬ T x) ∨ T2 x) = T2 := funext fun x => propext ⟨fun h => h.elim (fun h => absurd h.1 h.2) id, .inr⟩
    rw [this]
    exact ro2
  | k :: p, v, o, o1, T, ro, h => by
    obtain ⟨y, hy, h2⟩ := Option.bind_eq_some_iff.mp (show (o.kid k).bind (fun x => x.get p) = some o1 from h)
    obtain ⟨v1, T1, ro1, s1, ⟨a, rfl, hk⟩, up1⟩ := ro.sub1 hy
    obtain ⟨v2, T2, ro2, s2, vp, up2⟩ := RO.sub p ro1 h2
    refine ⟨v2, T2, ro2, fun x hx => s1 x (s2 x hx), .cons hk vp, fun F' H' o3 T3 e kp ro3 ht => ?_⟩
    have r1 := up2 F' H' o3 T3 e (fun x u hx hn hu => kp x u (s1 x hx) hn hu) ro3 fun x hx => (ht x hx).imp_right fun hn h1 => hn (s1 x h1)
    have r2 := up1 F' H' (y.put p o3) _ e (fun x u hx hn hu => kp x u hx (fun h => hn (s2 x h)) hu) r1 fun x hx => by
      rcases hx with ⟨h1, _⟩ | h1
      · exact .inl h1
      · rcases ht x h1 with h2 | h2
        · exact .inl (s2 x h2)
        · exact .inr h2
    have ep : o.put (k :: p) o3 = o.setKid k (y.put p o3) := by show (match o.kid k with | some y => o.setKid k (y.put p o3) | none => o) = _; rw [hy]
    rw [ep]
    have es : (fun x => (T x ∧ ¬ T2 x) ∨ T3 x) = (fun x => (T x ∧ ¬ T1 x) ∨ ((T1 x ∧ ¬ T2 x) ∨ T3 x)) := funext fun x => propext ⟨fun h => by
        rcases h with ⟨h1, h2⟩ | h1
        · by_cases h3 : T1 x
          · exact .inr (.inl ⟨h3, h2⟩)
          · exact .inl ⟨h1, h3⟩
        · exact .inr (.inr h1), fun h => by
        rcases h with ⟨h1, h2⟩ | ⟨h1, h2⟩ | h1
        · exact .inl ⟨h1, fun h => h2 (s2 x h)⟩
        · exact .inl ⟨s1 x h1, h2⟩
        · exact .inr h1⟩
    rw [es]
    exact r2
end VS
namespace VS
open PySem L2
variable {c : Cn} {W : WX} {F F' F1 F2 H H' H1 H2 : Hp} {S S' S1 S2 : Nat → Set1} {T T' T1 T2 : Set1} {σ σ' σ1 : L2.St} {r : R} {v : V} {env env' env1 : VEnv} {Q : VK} {fa fb fc : EV} {qa qb : Rd} {X : Cx} {tg e : Expr}
theorem atP_some {i : Nat} {p : List Nat} {o1 : O} (h : env.atP i p = some o1) : ∃ o, env.at i = some o ∧ o.get p = some o1 := Option.bind_eq_some_iff.mp h
theorem putP_eq {i : Nat} {p : List Nat} {o x : O} (h : env.at i = some o) : env.putP i p x = env.put i (o.put p x) := by unfold VEnv.putP; rw [h]
theorem Kp_putP {i : Nat} {p : List Nat} {x : O} : Kp env σ (env.putP i p x) σ := by
  unfold VEnv.putP
  split
  · exact Kp_put
  · exact Kp.rfl'
theorem Hold.place {i : Nat} {p : List Nat} {o1 : O} (hh : Hold c F S env σ H) (h : env.atP i p = some o1) : ∃ w v1 T1, σ[i]? = some (some w) ∧ VP F H w p v1 ∧ RO c F H v1 o1 T1 ∧ (∀ x, T1 x → S i x) ∧
    ∀ F' H' o1' T1' U, Same F F' → Same F' H' → (∀ x u, H x = some u → ¬ T1 x → H' x = some u) → RO c F' H' v1 o1' T1' → (∀ x, T1' x → T1 x ∨ ((∀ j, ¬ S j x) ∧ (U x ∨ H x = none))) → (∀ x, T1' x → F' x = none) → (∀ j x, S j x → ¬ T1 x → F' x = none) →
      (∀ x, un S x → U x) → (∀ x, F' x ≠ none → F x ≠ none ∨ U x ∨ H x = none ∨ ∃ xs, H x = some (.tup xs)) →
      ∃ S', Hold c F' S' (env.putP i p o1') σ H' ∧ Go F U H F' S' noT H' := by
  obtain ⟨o, ho, hp⟩ := atP_some h
  obtain ⟨w, hw, ro⟩ := hh.cell i o ho
  obtain ⟨v1, T1, ro1, s1, vp, up⟩ := RO.sub p ro hp
  refine ⟨w, v1, T1, hw, vp, ro1, s1, fun F' H' o1' T1' U eF eH kp ro2 ht oT oS hU hF => ?_⟩
  have il := at_lt ho
  have ro3 := up F' H' o1' T1' eF (fun x u hx hn hu => kp x u hu hn) ro2 fun x hx => (ht x hx).imp_right fun hn h1 => hn.1 i h1
  rw [putP_eq ho]
  refine ⟨setS S i (fun x => (S i x ∧ ¬ T1 x) ∨ T1' x), ?_, ⟨eF, fun x u hu hn => kp x u hu fun h1 => hn (hU x ⟨i, s1 x h1⟩), fun j x hx => ?_, fun x h => h.elim, hF, fun j x h => h.elim, fun x h => h.elim⟩⟩
  · refine hh.one eF eH (fun j x u hj hs hu => kp x u hu fun h1 => hj (hh.dis j i x hs (s1 x h1))) (fun j x hj hs => oS j x hs fun h1 => hj (hh.dis j i x hs (s1 x h1))) put_len rfl (fun j hj => put_ne hj) (fun _ _ => rfl) (fun o' ho' => ?_) (fun x _ => ⟨_, put_at il⟩) (fun j x hj hx hs => ?_) (fun x hx => ?_)
    · rw [put_at il] at ho'
      cases ho'
      exact ⟨w, hw, ro3⟩
    · rcases hx with ⟨h1, _⟩ | h1
      · exact hj (hh.dis j i x hs h1)
      · rcases ht x h1 with h2 | h2
        · exact hj (hh.dis j i x hs (s1 x h2))
        · exact h2.1 j hs
    · rcases hx with ⟨h1, h2⟩ | h1
      · exact oS i x h1 h2
      · exact oT x h1
  · by_cases e : j = i
    · subst e
      rw [setS_at] at hx
      rcases hx with ⟨h1, _⟩ | h1
      · exact .inl (hU x ⟨j, h1⟩)
      · rcases ht x h1 with h2 | h2
        · exact .inl (hU x ⟨j, s1 x h2⟩)
        · exact h2.2
    · rw [setS_ne e] at hx
      exact .inl (hU x ⟨j, hx⟩)
theorem Hold.freezeP {i : Nat} {p : List Nat} {o1 : O} (hh : Hold c F S env σ H) (h : env.atP i p = some o1) : ∃ w v1 T1, σ[i]? = some (some w) ∧ VP F H w p v1 ∧ RO c F H v1 o1 T1 ∧ ∃ F' S', Rep c F' v1 o1.data ∧ Hold c F' S' (env.putP i p (.val o1.data)) σ H ∧ Go F (un S) H F' S' noT H := by
  obtain ⟨w, v1, T1, hw, vp, ro1, s1, up⟩ := hh.place h
  refine ⟨w, v1, T1, hw, vp, ro1, ?_⟩
  obtain ⟨F', hF1, hF2⟩ : ∃ F' : Hp, (∀ x, T1 x → F' x = H x) ∧ (∀ x, ¬ T1 x → F' x = F x) := cut_region H F T1
  have eF : Same F F' := fun b u e => by
    rw [hF2 b fun hs => by rw [hh.off i b (s1 b hs)] at e; cases e]
    exact e
  have eH : Same F' H := fun b u e => by
    by_cases hs : T1 b
    · rw [hF1 b hs] at e; exact e
    · rw [hF2 b hs] at e; exact hh.ex b u e
  have rp : Rep c F' v1 o1.data := ro1.rep eF fun x u hx hu => by rw [hF1 x hx]; exact hu
  obtain ⟨S', h1, g1⟩ := up F' H (.val o1.data) noT (un S) eF eH (fun x u hu _ => hu) (.val rp fun x h => h) (fun x h => h.elim) (fun x h => h.elim) (fun j x hs hn => by rw [hF2 x hn]; exact hh.off j x hs) (fun x h => h) fun x hx => by
    by_cases hs : T1 x
    · exact .inr (.inl ⟨i, s1 x hs⟩)
    · rw [hF2 x hs] at hx; exact .inl hx
  exact ⟨F', S', rp, h1, g1⟩
end VS
namespace VS
open PySem L2
variable {c : Cn} {W : WX} {F F' F1 F2 H H' H1 H2 : Hp} {S S' S1 S2 : Nat → Set1} {T T' T1 T2 : Set1} {σ σ' σ1 : L2.St} {r : R} {v : V} {env env' env1 : VEnv} {Q : VK} {fa fb fc : EV} {qa qb : Rd} {X : Cx} {tg e : Expr}
def OneN (nm : Nat → Str) (n : Nat) : Prop := ∀ m, nm m = nm n → m = n
def nmOf (tb : List (List Nat)) (n : Nat) : Str := ⟨((tb[n]?).getD [2000000 + n]).toArray⟩
theorem nmOf_one {tb : List (List Nat)} (h1 : tb.Nodup) (h2 : ∀ l ∈ tb, ∀ x ∈ l, x < 2000000) (n : Nat) : OneN (nmOf tb) n := by
  intro m h
  have h3 : (tb[m]?).getD [2000000 + m] = (tb[n]?).getD [2000000 + n] := by
    have := congrArg (fun s : Str => s.cps.toList) h
    simpa [nmOf] using this
  by_cases hm : m < tb.length
  · by_cases hn : n < tb.length
    · rw [List.getElem?_eq_getElem hm, List.getElem?_eq_getElem hn] at h3
      exact (List.getElem_inj h1).mp h3
    · rw [List.getElem?_eq_getElem hm, List.getElem?_eq_none (by omega)] at h3
      have := h2 _ (List.getElem_mem hm) (2000000 + n) (by rw [show tb[m] = [2000000 + n] from h3]; simp)
      omega
  · by_cases hn : n < tb.length
    · rw [List.getElem?_eq_none (by omega), List.getElem?_eq_getElem hn] at h3
      have := h2 _ (List.getElem_mem hn) (2000000 + m) (by rw [← show [2000000 + m] = tb[n] from h3]; simp)
      omega
    · rw [List.getElem?_eq_none (by omega), List.getElem?_eq_none (by omega)] at h3
      simp at h3
      exact h3
section
variable {α : Type} {nm : Nat → Str} {n : Nat}
def Nms (nm : Nat → Str) (fs : List (Str × V)) (ds : List (Nat × α)) : Prop := fs.map (·.1) = ds.map fun d => nm d.1
theorem nms_of {fs : List (Str × V)} {ds : List (Nat × α)} (hl : fs.length = ds.length) (h : ∀ (k : Nat) (f : Str × V) (d : Nat × α), fs[k]? = some f → ds[k]? = some d → f.1 = nm d.1) : Nms nm fs ds := by
  refine List.ext_getElem? fun k => ?_
  rw [List.getElem?_map, List.getElem?_map]
  by_cases hk : k < ds.length
  · obtain ⟨f, d, hf, hd⟩ := get_of_lt hl hk
    rw [hf, hd]
    show some f.1 = some (nm d.1)
    rw [h k f d hf hd]
  · rw [List.getElem?_eq_none (by omega), List.getElem?_eq_none (by omega)]; rfl
theorem nms_get {fs : List (Str × V)} {ds : List (Nat × α)} (h : Nms nm fs ds) {k : Nat} {f : Str × V} {d : Nat × α} (hf : fs[k]? = some f) (hd : ds[k]? = some d) : f.1 = nm d.1 := by
  have := congrArg (fun l : List Str => l[k]?) h
  simp only [List.getElem?_map, hf, hd, Option.map_some, Option.some.injEq] at this
  exact this
theorem nms_len {fs : List (Str × V)} {ds : List (Nat × α)} (h : Nms nm fs ds) : fs.length = ds.length := by
  have := congrArg List.length h
  simpa using this
theorem nms_look (h1 : OneN nm n) : ∀ {fs : List (Str × V)} {ds : List (Nat × α)}, Nms nm fs ds → (fldAt n ds = none ∧ fs.lookup (nm n) = none ∧ ds.lookup n = none) ∨ ∃ k v o, fldAt n ds = some k ∧ fs[k]? = some (nm n, v) ∧ ds[k]? = some (n, o) ∧ fs.lookup (nm n) = some v ∧ ds.lookup n = some o
  | [], [], _ => .inl ⟨rfl, rfl, rfl⟩
  | [], _ :: _, h => by simp [Nms] at h
  | _ :: _, [], h => by simp [Nms] at h
  | (f, v) :: fs, (d, o) :: ds, h => by
    obtain ⟨h2, h3⟩ := List.cons.inj (show f :: fs.map (·.1) = nm d :: ds.map (fun d => nm d.1) from h)
    subst h2
    by_cases e : d = n
    · subst e
      refine .inr ⟨0, v, o, ?_, rfl, rfl, ?_, ?_⟩
      · unfold fldAt; simp [List.findIdx?_cons]
      · simp [List.lookup]
      · simp [List.lookup]
    · have e2 : nm n ≠ nm d := fun h => e (h1 d h.symm)
      have b1 : (nm n == nm d) = false := beq_eq_false_iff_ne.mpr e2
      have b2 : (n == d) = false := beq_eq_false_iff_ne.mpr (Ne.symm e)
      have b3 : (d == n) = false := beq_eq_false_iff_ne.mpr e
      rcases nms_look h1 h3 with ⟨q1, q2, q3⟩ | ⟨k, v', o', q1, q2, q3, q4, q5⟩
      · left
        refine ⟨?_, ?_, ?_⟩
        · unfold fldAt at *; rw [List.findIdx?_cons]; simp [b3, q1]
        · simp only [List.lookup, b1]; exact q2
        · simp only [List.lookup, b2]; exact q3
      · right
        refine ⟨k + 1, v', o', ?_, q2, q3, ?_, ?_⟩
        · unfold fldAt at *; rw [List.findIdx?_cons]; simp [b3, q1]
        · simp only [List.lookup, b1]; exact q4
        · simp only [List.lookup, b2]; exact q5
end
def rFld (K : PySem.W.Frag) (f : Str) : V → Hp → VK → Prop := fun x H Q => ∃ a C dx fs v, x = .ref a ∧ H a = some (.ins C dx fs) ∧ Cls K C ∧ NoAttr K C f ∧ fs.lookup f = some v ∧ Q v H
structure AtOk (c : Cn) (cn n : Nat) : Prop where
  one : OneN c.nm n
  cls : ∀ C, c.mg (c.nm cn) = some (.ref C) → Cls c.K C ∧ NoAttr c.K C (c.nm n)
theorem op_fld {cn n : Nat} (h : AtOk c cn n) : Op c (R1L (rFld c.K (c.nm n))) (opFld cn n) := by
  intro F S env σ H rs vs Ts r' env' Q hh t hg q
  unfold opFld at hg
  split at hg
  · rename_i c1 ds en
    obtain ⟨v1, rfl, i1⟩ := one t
    split at hg
    · rename_i ec
      subst ec
      obtain ⟨d, hd, e⟩ := Option.map_eq_some_iff.mp hg
      cases e
      cases i1 with
      | val rp _ =>
        cases rp with
        | @ins a C dx _ fs _ hC hF hl hn hr =>
          rcases nms_look h.one (nms_of hl hn) with ⟨_, _, q3⟩ | ⟨k, v, o, _, q2, q3, q4, q5⟩
          · rw [q3] at hd; cases hd
          · rw [q5] at hd; cases hd
            obtain ⟨h1, h2⟩ := h.cls C hC
            exact ⟨_, rfl, a, C, dx, fs, v, rfl, hh.ex _ _ hF, h1, h2, q4, out_val hh (hr k _ _ q2 q3) q⟩
    · cases hg
  · rename_i en i
    obtain ⟨v1, rfl, i1⟩ := one t
    split at hg
    · rename_i c1 ds ha
      split at hg
      · rename_i ec
        subst ec
        split at hg
        · rename_i k hk
          split at hg
          · rename_i m o hko
            cases hg
            obtain ⟨w, hw, ro⟩ := hh.cell i _ ha
            have e1 : v1 = w := by have := i1.1; rw [hw] at this; cases this; rfl
            subst e1
            have hp : env.atP i [k] = some o := by
              unfold VEnv.atP
              rw [ha]
              show ((O.ins c1 ds).kid k).bind (fun x => x.get []) = some o
              show ((ds[k]?).map (·.2)).bind (fun x => x.get []) = some o
              rw [hko]; rfl
            obtain ⟨w', v2, T1, hw', vp, ro1, F', S', rp, hh1, g1⟩ := hh.freezeP hp
            rw [hw] at hw'; cases hw'
            cases ro with
            | @ins a C dx _ fs _ _ S hC hH hl hn hr dj bd hT =>
              obtain ⟨h1, h2⟩ := h.cls C hC
              rcases nms_look h.one (nms_of hl hn) with ⟨q1, _, _⟩ | ⟨k', v, o', q1, q2, q3, q4, q5⟩
              · rw [q1] at hk; cases hk
              · rw [q1] at hk; cases hk
                have ev : v2 = v := by
                  cases vp with
                  | cons hv hn' =>
                    cases hn'
                    rcases hv with hv | hv
                    · unfold vKid at hv
                      rw [hH] at hv
                      simp only [q2, Option.map_some, Option.some.injEq] at hv
                      exact hv.symm
                    · have hx : vKid H a k = some v2 := by
                        unfold vKid at hv ⊢
                        cases hF : F a with
                        | none => rw [hF] at hv; cases hv
                        | some u => rw [hh.ex a u hF]; rw [hF] at hv; exact hv
                      unfold vKid at hx
                      rw [hH] at hx
                      simp only [q2, Option.map_some, Option.some.injEq] at hx
                      exact hx.symm
                subst ev
                refine ⟨_, rfl, a, C, dx, fs, v2, rfl, hH, h1, h2, q4, ?_⟩
                exact q F' S' noT v2 H (g1.wide fun x h => .inl h) hh1 Kp_putP (.val rp fun x h => h)
          · cases hg
        · cases hg
      · cases hg
    · cases hg
  · cases hg
theorem v_fld {cn n : Nat} {f : Str} {pos : Pos} (h : AtOk c cn n) (hK : c.K = X.K) (hf : f = c.nm n) (ha : PE X e (tV c W fa)) (hb : attributeBase e f X.env (eval e X.env) = eval e X.env := by rfl) : PE X (.Attribute e f pos) (tV c W (eOp1 (opFld cn n) fa)) := by
  subst hf
  exact PE_imp (pe_fld ha hb) fun σ H Q q => by rw [← hK]; exact op1_ok (op_fld h) q
end VS
namespace VS
open PySem L2
variable {c : Cn} {W : WX} {F F' F1 F2 H H' H1 H2 : Hp} {S S' S1 S2 : Nat → Set1} {T T' T1 T2 : Set1} {σ σ' σ1 : L2.St} {r : R} {v : V} {env env' env1 : VEnv} {Q : VK} {fa fb fc : EV} {qa qb : Rd} {X : Cx} {tg e : Expr}
def vAt (H : Hp) : V → List Nat → Option V
  | v, [] => some v
  | .ref a, k :: p => (vKid H a k).bind fun w => vAt H w p
  | _, _ :: _ => none
theorem vKid_up {a : Addr} {k : Nat} (e : Same F H) (h : vKid F a k = some v) : vKid H a k = some v := by
  unfold vKid at h ⊢
  cases hF : F a with
  | none => rw [hF] at h; cases h
  | some u => rw [e a u hF]; rw [hF] at h; exact h
theorem VP.at_ {w : V} {p : List Nat} (e : Same F H) (h : VP F H w p v) : vAt H w p = some v := by
  induction h with
  | nil => unfold vAt; rfl
  | cons hk _ ih =>
    have hk' := hk.elim id (vKid_up e)
    unfold vAt
    rw [hk']
    exact ih
theorem vAt_snoc {k : Nat} : ∀ {p : List Nat} {w v1 : V} {a : Addr}, vAt H w p = some (.ref a) → vKid H a k = some v1 → vAt H w (p ++ [k]) = some v1
  | [], w, v1, a, h, hk => by
    have : w = .ref a := by unfold vAt at h; exact Option.some.inj h
    subst this
    show (vKid H a k).bind (fun w => vAt H w []) = some v1
    rw [hk]
    show vAt H v1 [] = some v1
    unfold vAt; rfl
  | j :: p, w, v1, a, h, hk => by
    cases w with
    | ref b =>
      have h' : (vKid H b j).bind (fun w => vAt H w p) = some (.ref a) := h
      obtain ⟨w2, h1, h2⟩ := Option.bind_eq_some_iff.mp h'
      show (vKid H b j).bind (fun w => vAt H w (p ++ [k])) = some v1
      rw [h1]
      exact vAt_snoc h2 hk
    | _ => cases h
def tPl (c : Cn) (pl : Pl) : TE := fun σ H Q => ∃ F S env, Hold c F S env σ H ∧ ∃ i p o, pl env = some (i, p) ∧ env.atP i p = some o ∧ ∀ w v, σ[i]? = some (some w) → vAt H w p = some v → Q v H
theorem pl_var {i : Nat} {e : Expr} (h : PE X e (tVar i)) : PE X e (tPl c (plVar i)) := PE_imp h fun σ H Q ⟨F, S, env, hh, j, p, o, e, ho, q⟩ => by
  cases e
  obtain ⟨o', ho', _⟩ := atP_some ho
  obtain ⟨v, hv, ro⟩ := hh.cell i o' ho'
  exact ⟨v, hv, q v v hv (by unfold vAt; rfl)⟩
theorem get_snoc : ∀ {p : List Nat} {o o1 o2 : O} {k : Nat}, o.get p = some o1 → o1.kid k = some o2 → o.get (p ++ [k]) = some o2
  | [], o, o1, o2, k, h, hk => by
    cases h
    show (o.kid k).bind (fun x => x.get []) = some o2
    rw [hk]; rfl
  | j :: p, o, o1, o2, k, h, hk => by
    obtain ⟨y, hy, h2⟩ := Option.bind_eq_some_iff.mp (show (o.kid j).bind (fun x => x.get p) = some o1 from h)
    show (o.kid j).bind (fun x => x.get (p ++ [k])) = some o2
    rw [hy]
    exact get_snoc h2 hk
theorem pl_fld {cn n : Nat} {f : Str} {pl : Pl} {pos : Pos} (h : AtOk c cn n) (hK : c.K = X.K) (hf : f = c.nm n) (ha : PE X e (tPl c pl)) (hb : attributeBase e f X.env (eval e X.env) = eval e X.env := by rfl) : PE X (.Attribute e f pos) (tPl c (plFld cn n pl)) := by
  subst hf
  refine PE_imp (pe_fld ha hb) fun σ H Q q => ?_
  obtain ⟨F, S, env, hh, i, p', o, e1, ho, q⟩ := q
  unfold plFld at e1
  split at e1
  · rename_i i' p hpl
    split at e1
    · rename_i c1 ds hat
      split at e1
      · rename_i ec
        subst ec
        obtain ⟨k, hk, e2⟩ := Option.map_eq_some_iff.mp e1
        cases e2
        refine ⟨F, S, env, hh, i, p, _, hpl, hat, fun w v hw hv => ?_⟩
        obtain ⟨w', v1, T1, hw', vp, ro, _, _⟩ := hh.place hat
        rw [hw] at hw'; cases hw'
        have := vp.at_ hh.ex
        rw [hv] at this; cases this
        cases ro with
        | @ins a C dx _ fs _ _ S hC hH hl hn hr dj bd hT =>
          obtain ⟨h1, h2⟩ := h.cls C hC
          rcases nms_look h.one (nms_of hl hn) with ⟨q1, _, _⟩ | ⟨k', v, o', q1, q2, q3, q4, q5⟩
          · rw [q1] at hk; cases hk
          · rw [q1] at hk; cases hk
            refine ⟨a, C, dx, fs, v, rfl, hH, by rw [← hK]; exact h1, by rw [← hK]; exact h2, q4, ?_⟩
            refine q w v hw (vAt_snoc hv ?_)
            unfold vKid
            rw [hH]
            show (fs[k]?).map (·.2) = some v
            rw [q2]; rfl
      · cases e1
    · cases e1
  · cases e1
section
variable {α β : Type} {nm : Nat → Str} {n : Nat}
theorem nms_put (h1 : OneN nm n) (y : V) (x : α) : ∀ {fs : List (Str × V)} {ds : List (Nat × α)}, Nms nm fs ds → ∃ k, k ≤ ds.length ∧ k < (putFd n x ds).length ∧ ds.length ≤ (putFd n x ds).length ∧ (putFd n x ds).length ≤ ds.length + 1 ∧ (putF (nm n) y fs).length = (putFd n x ds).length ∧
    (∀ j, (putFd n x ds)[j]? = if j = k then some (n, x) else ds[j]?) ∧ ∀ j, (putF (nm n) y fs)[j]? = if j = k then some (nm n, y) else fs[j]?
  | [], [], _ => by
    refine ⟨0, Nat.le_refl _, by simp [putFd], by simp [putFd], by simp [putFd], rfl, fun j => ?_, fun j => ?_⟩
    all_goals cases j <;> simp [putFd, putF]
  | [], _ :: _, h => by simp [Nms] at h
  | _ :: _, [], h => by simp [Nms] at h
  | (f, v) :: fs, (d, o) :: ds, h => by
    obtain ⟨h2, h3⟩ := List.cons.inj (show f :: fs.map (·.1) = nm d :: ds.map (fun d => nm d.1) from h)
    subst h2
    have hl := nms_len h3
    by_cases e : d = n
    · subst e
      refine ⟨0, Nat.zero_le _, ?_, ?_, ?_, ?_, fun j => ?_, fun j => ?_⟩
      all_goals simp [putFd, putF, hl]
      all_goals cases j <;> simp
    · have e2 : ¬ nm d = nm n := fun h => e (h1 d h)
      obtain ⟨k, q1, q2, q3, q4, q5, q6, q7⟩ := nms_put h1 y x h3
      refine ⟨k + 1, by simp; omega, ?_, ?_, ?_, ?_, fun j => ?_, fun j => ?_⟩
      · simp only [putFd, if_neg e, List.length_cons]; omega
      · simp only [putFd, if_neg e, List.length_cons]; omega
      · simp only [putFd, if_neg e, List.length_cons]; omega
      · simp only [putFd, putF, if_neg e, if_neg e2, List.length_cons]; omega
      · simp only [putFd, if_neg e]
        cases j with
        | zero => simp
        | succ j => simp only [List.getElem?_cons_succ, q6 j, Nat.add_right_cancel_iff]
      · simp only [putF, if_neg e2]
        cases j with
        | zero => simp
        | succ j => simp only [List.getElem?_cons_succ, q7 j, Nat.add_right_cancel_iff]
end
theorem s_setF {cn n : Nat} {pl : Pl} {D : Ends} (h : AtOk c cn n) (hs : tS c W (sSetF pl cn n fa) D σ H) : sFld c.K (tPl c pl) (tV c W fa) (c.nm n) D σ H :=
  exprS hs fun r e1 F S env res F1 S1 T1 v H1 g1 hh1 k1 is1 e q => by
    have t1 : Temps c F1 S1 σ H1 [r] [v] _ := Temps.one is1 g1.dT g1.oT
    cases hst : r.settle e1 with
    | none => rw [hst] at e; cases e
    | some p0 =>
      obtain ⟨x, e2⟩ := p0
      rw [hst] at e
      simp only at e
      obtain ⟨F2, S2, hh2, t2, g2, k2⟩ := settles_ok (os := [x]) hh1 t1 (by unfold settles; rw [hst]; rfl)
      split at e
      · rename_i i p hpl
        split at e
        · rename_i c1 ds hat
          split at e
          · rename_i hc
            obtain ⟨ec, hlen⟩ := hc
            subst ec
            cases e
            refine ⟨F2, S2, e2, hh2, i, p, _, hpl, hat, fun w v0 hw hv => ?_⟩
            obtain ⟨w', v1, T3, hw', vp, ro, s3, up⟩ := hh2.place hat
            rw [hw] at hw'; cases hw'
            have hv1 := vp.at_ hh2.ex
            rw [hv] at hv1; cases hv1
            cases ro with
            | @ins a C dx _ fs _ _ So hC hH hl hn hr dj bd hT =>
              obtain ⟨h1, h2⟩ := h.cls C hC
              have hnm := nms_of hl hn
              obtain ⟨k, q1, q2, q3, q4, q5, q6, q7⟩ := nms_put (n := n) h.one v x hnm
              refine ⟨a, C, dx, fs, rfl, hH, h1, h2, by rw [hl]; exact hlen, ?_⟩
              have rox : RO c F2 H1 v x (fun y => (0 : Nat) = 0 ∧ T1 y) := t2.is 0 (.o x) v rfl rfl
              have dS : ∀ j y, T1 y → ¬ S2 j y := fun j y hy => t2.offS 0 j y ⟨rfl, hy⟩
              have oF : ∀ y, T1 y → F2 y = none := fun y hy => t2.offF 0 y ⟨rfl, hy⟩
              have Ta : T3 a := (hT a).mpr (.inl rfl)
              have Sa : S2 i a := s3 a Ta
              have eT : (fun y => (0 : Nat) = 0 ∧ T1 y) = T1 := funext fun y => propext ⟨fun h => h.2, fun h => ⟨rfl, h⟩⟩
              rw [eT] at rox
              have sm : ∀ x u, x ≠ a → H1 x = some u → upd H1 a (.ins C dx (putF (c.nm n) v fs)) x = some u := fun x u hx e => by rw [upd_ne hx]; exact e
              have inT : ∀ j y, kS So k T1 j y → T3 y ∨ T1 y := fun j y hy => by
                unfold kS at hy
                split at hy
                · exact .inr hy
                · exact .inl ((hT y).mpr (.inr ⟨j, hy⟩))
              have na : ∀ j y, kS So k T1 j y → y ≠ a := fun j y hy => by
                unfold kS at hy
                split at hy
                · exact fun z => by subst z; exact dS i _ hy Sa
                · exact (bd j y hy).1
              have ron : RO c F2 (upd H1 a (.ins C dx (putF (c.nm n) v fs))) (.ref a) (.ins c1 (putFd n x ds)) (fun y => y = a ∨ ∃ j, kS So k T1 j y) := by
                refine .ins (kS So k T1) hC upd_same q5 (fun j f d hf hd => ?_) (fun j f d hf hd => ?_) (fun i' j' y hi hj => ?_) (fun j y hy => ⟨na j y hy, ?_⟩) (fun y => Iff.rfl)
                · rw [q6 j] at hd
                  rw [q7 j] at hf
                  split at hd
                  · rename_i ej
                    rw [if_pos ej] at hf
                    cases hd; cases hf; rfl
                  · rename_i ej
                    rw [if_neg ej] at hf
                    exact hn j f d hf hd
                · rw [q6 j] at hd
                  rw [q7 j] at hf
                  split at hd
                  · rename_i ej
                    rw [if_pos ej] at hf
                    cases hd; cases hf
                    subst ej
                    rw [kS_self]
                    exact rox.up Same.rfl' fun y u hy hu => sm y u (fun z => by subst z; exact dS i _ hy Sa) hu
                  · rename_i ej
                    rw [if_neg ej] at hf
                    rw [kS_ne ej]
                    exact (hr j f d hf hd).up Same.rfl' fun y u hy hu => sm y u (bd j y hy).1 hu
                · unfold kS at hi hj
                  split at hi
                  · split at hj
                    · omega
                    · exact absurd (s3 y ((hT y).mpr (.inr ⟨j', hj⟩))) (dS i y hi)
                  · split at hj
                    · exact absurd (s3 y ((hT y).mpr (.inr ⟨i', hi⟩))) (dS i y hj)
                    · exact dj _ _ y hi hj
                · unfold kS at hy
                  split at hy
                  · rename_i ej; rw [ej]; exact q2
                  · exact Nat.lt_of_lt_of_le (bd j y hy).2 q3
              obtain ⟨S4, hh4, g4⟩ := up F2 (upd H1 a (.ins C dx (putF (c.nm n) v fs))) (.ins c1 (putFd n x ds)) _ (fun y => un S2 y ∨ T1 y) Same.rfl' (fun b u hb => sm b u (fun z => by subst z; rw [hh2.off i b Sa] at hb; cases hb) (hh2.ex b u hb))
                (fun y u hu hn' => sm y u (fun z => by subst z; exact hn' Ta) hu) ron (fun y hy => by
                  rcases hy with rfl | ⟨j, hy⟩
                  · exact .inl Ta
                  · unfold kS at hy
                    split at hy
                    · exact .inr ⟨fun j' => dS j' y hy, .inl (.inr hy)⟩
                    · exact .inl ((hT y).mpr (.inr ⟨j, hy⟩))) (fun y hy => by
                  rcases hy with rfl | ⟨j, hy⟩
                  · exact hh2.off i _ Sa
                  · rcases inT j y hy with h3 | h3
                    · exact hh2.off i y (s3 y h3)
                    · exact oF y h3) (fun j y hs _ => hh2.off j y hs) (fun y hy => .inl hy) (fun y hy => .inl hy)
              refine q F2 S4 noT σ _ ?_ hh4 ((k1.trans k2).trans Kp_putP)
              have gA := g1.add (T' := fun x => (0 : Nat) = 0 ∧ T1 x) g2 (fun x h => .inl h) (fun x h => .inl h.2) (fun x h => t2.offF 0 x ⟨rfl, h⟩) fun i x h => t2.offS 0 i x ⟨rfl, h⟩
              exact gA.trans g4 fun x hx => hx.imp id fun h => ⟨rfl, h⟩
          · cases e
        · cases e
      · cases e
theorem vs_setF {cn n : Nat} {f : Str} {pl : Pl} {o e : Expr} {pos pos' : Pos} (h : AtOk c cn n) (hK : c.K = X.K) (hf : f = c.nm n) (ho : PE X o (tPl c pl)) (he : PE X e (tV c W fa)) (hs : swapsWith e (some (.Attribute o f pos')) pos.line X.env = pure false := by rfl) :
    PS X (.Assign [.Attribute o f pos'] e pos) (tS c W (sSetF pl cn n fa)) := by
  subst hf
  exact PS_imp (ps_fld ho he hs) fun D σ H q => by rw [← hK]; exact s_setF h q
end VS
namespace VS
open PySem L2
variable {c : Cn} {W : WX} {F F' F1 F2 H H' H1 H2 : Hp} {S S' S1 S2 : Nat → Set1} {T T' T1 T2 : Set1} {σ σ' σ1 : L2.St} {r : R} {v : V} {env env' env1 : VEnv} {Q : VK} {fa fb fc : EV} {qa qb : Rd} {X : Cx} {tg e : Expr}
theorem str_toList_inj {x y : Str} (h : x.cps.toList = y.cps.toList) : x = y := by
  cases x; cases y
  simp only [Str.mk.injEq]
  exact Array.toList_inj.mp h
theorem keyD_inj {a b : Key} (h : keyD a = keyD b) : a = b := by
  cases a <;> cases b <;> simp only [keyD, D.int.injEq, D.str.injEq, reduceCtorEq] at h
  · rw [h]
  · rw [str_toList_inj h]
theorem scB_key (a b : Key) : scB (keyD a) (keyD b) = decide (a = b) := by
  have h : a = b ↔ keyD a = keyD b := ⟨fun e => by rw [e], keyD_inj⟩
  cases a <;> cases b <;> simp only [keyD, scB, h, D.int.injEq, D.str.injEq, reduceCtorEq, decide_false]
theorem keyB_key (a b : Key) : keyB (keyD a) (keyD b) = decide (a = b) := by
  have h : a = b ↔ keyD a = keyD b := ⟨fun e => by rw [e], keyD_inj⟩
  cases a <;> cases b <;> simp only [keyD, keyB, h, D.int.injEq, D.str.injEq, reduceCtorEq, decide_false]
theorem scBs_key : ∀ as bs : List Key, scBs (as.map keyD) (bs.map keyD) = decide (as = bs)
  | [], [] => rfl
  | [], b :: bs => by simp [scBs]
  | a :: as, [] => by simp [scBs]
  | a :: as, b :: bs => by
    simp only [List.map_cons, scBs, scB_key, scBs_key as bs, List.cons.injEq]
    exact (Bool.decide_and _ _).symm
theorem keyB_tup (as bs : List Key) : keyB (.tup (as.map keyD)) (.tup (bs.map keyD)) = decide (as = bs) := by
  simp only [keyB]; exact scBs_key as bs
theorem sc_key {d : D} (h : scK d = true) {G : Hp} (r : Rep c G v d) : ∃ k : Key, v = kV k ∧ d = keyD k := by
  cases r with
  | int i => exact ⟨.inl i, rfl, rfl⟩
  | str s => exact ⟨.inr ⟨s.toArray⟩, rfl, by simp [keyD]⟩
  | _ => cases h
theorem sc_keys : ∀ {ds : List D} {vs : List V}, ds.all scK = true → vs.length = ds.length → (∀ (k : Nat) v d, vs[k]? = some v → ds[k]? = some d → Rep c H v d) → ∃ ks : List Key, ds = ks.map keyD ∧ vs = ks.map kV
  | [], [], _, _, _ => ⟨[], rfl, rfl⟩
  | [], _ :: _, _, hl, _ => by simp at hl
  | _ :: _, [], _, hl, _ => by simp at hl
  | d :: ds, v :: vs, h, hl, hr => by
    rw [List.all_cons, Bool.and_eq_true] at h
    obtain ⟨k, e1, e2⟩ := sc_key h.1 (hr 0 v d rfl rfl)
    obtain ⟨ks, e3, e4⟩ := sc_keys h.2 (by simpa using hl) fun k v d hv hd => hr (k + 1) v d (by simpa using hv) (by simpa using hd)
    exact ⟨k :: ks, by rw [e2, e3]; rfl, by rw [e1, e4]; rfl⟩
theorem find_map {α β : Type} {p : α → Bool} {q : β → Bool} : ∀ {xs : List α} {ys : List β}, xs.length = ys.length → (∀ (k : Nat) x y, xs[k]? = some x → ys[k]? = some y → p x = q y) → (xs.find? p = none ∧ ys.find? q = none) ∨ ∃ (k : Nat) (x : α) (y : β), xs[k]? = some x ∧ ys[k]? = some y ∧ xs.find? p = some x ∧ ys.find? q = some y
  | [], [], _, _ => .inl ⟨rfl, rfl⟩
  | [], _ :: _, hl, _ => by simp at hl
  | _ :: _, [], hl, _ => by simp at hl
  | x :: xs, y :: ys, hl, h => by
    have h0 := h 0 x y rfl rfl
    by_cases hp : p x = true
    · exact .inr ⟨0, x, y, rfl, rfl, List.find?_cons_of_pos hp, List.find?_cons_of_pos (by rw [← h0]; exact hp)⟩
    · rcases find_map (by simpa using hl) (fun k x y hx hy => h (k + 1) x y (by simpa using hx) (by simpa using hy)) with ⟨q1, q2⟩ | ⟨k, x', y', q1, q2, q3, q4⟩
      · exact .inl ⟨by rw [List.find?_cons_of_neg hp]; exact q1, by rw [List.find?_cons_of_neg (by rw [← h0]; exact hp)]; exact q2⟩
      · exact .inr ⟨k + 1, x', y', by simpa using q1, by simpa using q2, by rw [List.find?_cons_of_neg hp]; exact q3, by rw [List.find?_cons_of_neg (by rw [← h0]; exact hp)]; exact q4⟩
theorem dget_ok {o : O} {k : D} {x : Option O} {y : V} (hF : Same F H) (ro : RO c F H v o T) (rk : Rep c H y k) (h : o.dget k = some x) : ∃ a, v = .ref a ∧ IsD H a ∧ ∃ g, DGet H a y g ∧ ((x = none ∧ g = none) ∨ ∃ o1 w, x = some o1 ∧ g = some w ∧ ∃ T1, RO c F H w o1 T1) := by
  unfold O.dget at h
  split at h
  · rename_i t ks
    split at h
    · rename_i hk
      cases h
      cases ro with
      | val rp _ =>
        cases rp with
        | @dK a kvs _ hd hl hkk hr =>
          obtain ⟨kk, rfl, rfl⟩ := sc_key hk rk
          have hd' : L2.Rd H a (.dK kvs) := rd_up hF hd
          refine ⟨a, rfl, .inl ⟨kvs, hd'⟩, valV kvs kk, .inl ⟨kvs, kk, hd', rfl, rfl⟩, ?_⟩
          rcases find_map (p := fun kv : Key × V => decide (kv.1 = kk)) (q := fun p : D × D => keyB p.1 (keyD kk)) hl (fun j kv kd hkv hkd => by rw [hkk j kv kd hkv hkd, keyB_key]) with ⟨q1, q2⟩ | ⟨j, kv, kd, q1, q2, q3, q4⟩
          · left; unfold lookK valV; rw [q1, q2]; exact ⟨rfl, rfl⟩
          · right; unfold lookK valV; rw [q3, q4]; exact ⟨_, _, rfl, rfl, noT, .val (hr j kv kd q1 q2) fun x h => h⟩
        | @dT a kvs _ hd hl hkk hr =>
          cases rk with
          | @tup b vs ds hb hlv hrv =>
            obtain ⟨kk, rfl, rfl⟩ := sc_keys hk hlv hrv
            have hd' : L2.Rd H a (.dT kvs) := rd_up hF hd
            refine ⟨a, rfl, .inr ⟨kvs, hd'⟩, valV kvs kk, .inr ⟨kvs, kk, b, hd', rfl, hb, rfl⟩, ?_⟩
            rcases find_map (p := fun kv : List Key × V => decide (kv.1 = kk)) (q := fun p : D × D => keyB p.1 (.tup (kk.map keyD))) hl (fun j kv kd hkv hkd => by rw [hkk j kv kd hkv hkd, keyB_tup]) with ⟨q1, q2⟩ | ⟨j, kv, kd, q1, q2, q3, q4⟩
            · left; unfold lookK valV; rw [q1, q2]; exact ⟨rfl, rfl⟩
            · right; unfold lookK valV; rw [q3, q4]; exact ⟨_, _, rfl, rfl, noT, .val (hr j kv kd q1 q2) fun x h => h⟩
          | _ => cases hk
    · cases h
  · rename_i t ks
    split at h
    · rename_i hk
      cases h
      cases ro with
      | @dK a kvs _ _ S hd hl hkk hr =>
        obtain ⟨kk, rfl, rfl⟩ := sc_key hk rk
        refine ⟨a, rfl, .inl ⟨kvs, .inl hd⟩, valV kvs kk, .inl ⟨kvs, kk, .inl hd, rfl, rfl⟩, ?_⟩
        rcases find_map (p := fun kv : Key × V => decide (kv.1 = kk)) (q := fun p : D × O => keyB p.1 (keyD kk)) hl (fun j kv kd hkv hkd => by rw [hkk j kv kd hkv hkd, keyB_key]) with ⟨q1, q2⟩ | ⟨j, kv, kd, q1, q2, q3, q4⟩
        · left; unfold lookK valV; rw [q1, q2]; exact ⟨rfl, rfl⟩
        · right; unfold lookK valV; rw [q3, q4]; exact ⟨_, _, rfl, rfl, _, hr j kv kd q1 q2⟩
      | @dT a kvs _ _ S hd hl hkk hr =>
        cases rk with
        | @tup b vs ds hb hlv hrv =>
          obtain ⟨kk, rfl, rfl⟩ := sc_keys hk hlv hrv
          refine ⟨a, rfl, .inr ⟨kvs, .inl hd⟩, valV kvs kk, .inr ⟨kvs, kk, b, .inl hd, rfl, hb, rfl⟩, ?_⟩
          rcases find_map (p := fun kv : List Key × V => decide (kv.1 = kk)) (q := fun p : D × O => keyB p.1 (.tup (kk.map keyD))) hl (fun j kv kd hkv hkd => by rw [hkk j kv kd hkv hkd, keyB_tup]) with ⟨q1, q2⟩ | ⟨j, kv, kd, q1, q2, q3, q4⟩
          · left; unfold lookK valV; rw [q1, q2]; exact ⟨rfl, rfl⟩
          · right; unfold lookK valV; rw [q3, q4]; exact ⟨_, _, rfl, rfl, _, hr j kv kd q1 q2⟩
        | _ => cases hk
    · cases h
  · cases h
end VS
namespace VS
open PySem L2
variable {c : Cn} {W : WX} {F F' F1 F2 H H' H1 H2 : Hp} {S S' S1 S2 : Nat → Set1} {T T' T1 T2 : Set1} {σ σ' σ1 : L2.St} {r : R} {v : V} {env env' env1 : VEnv} {Q : VK} {fa fb fc : EV} {qa qb : Rd} {X : Cx} {tg e : Expr}
def rDG : R2 := fun x y H Q => ∃ a v, x = .ref a ∧ DGet H a y (some v) ∧ Q v H
theorem rep_val {d : D} {T : Set1} (ro : RO c F H v (.val d) T) : Rep c F v d := by cases ro with | val rp _ => exact rp
theorem op_ixD : Op c (R2L rDG) opIxD := by
  intro F S env σ H rs vs Ts r' env' Q hh t hg q
  unfold opIxD at hg
  split at hg
  · rename_i r1 r2 en
    obtain ⟨v1, v2, rfl, i1, i2⟩ := two (rs := []) t
    split at hg
    · rename_i o k e1 e2
      split at hg
      · rename_i d hx
        cases hg
        obtain ⟨T1, ro⟩ := i1.get hh e1
        obtain ⟨a, rfl, hD, g, dg, hq⟩ := dget_ok hh.ex ro (i2.rep hh e2) hx
        rcases hq with ⟨h, _⟩ | ⟨o1, w, h, rfl, T2, ro2⟩
        · cases h
        · cases h
          exact ⟨_, _, rfl, a, w, rfl, dg, out_val hh (rep_val ro2) q⟩
      · cases hg
    · cases hg
  · cases hg
def rDIn (neg : Bool) : R2 := fun y x H Q => ∃ a o, x = .ref a ∧ DGet H a y o ∧ Q (.bl (neg != o.isSome)) H
theorem op_inD {neg : Bool} : Op c (R2L (rDIn neg)) (opInD neg) := by
  intro F S env σ H rs vs Ts r' env' Q hh t hg q
  unfold opInD at hg
  split at hg
  · rename_i r2 r1 en
    obtain ⟨v2, v1, rfl, i2, i1⟩ := two (rs := []) t
    split at hg
    · rename_i o k e1 e2
      split at hg
      · rename_i x hx
        cases hg
        obtain ⟨T1, ro⟩ := i1.get hh e1
        obtain ⟨a, rfl, hD, g, dg, hq⟩ := dget_ok hh.ex ro (i2.rep hh e2) hx
        have eg : g.isSome = x.isSome := by
          rcases hq with ⟨rfl, rfl⟩ | ⟨o1, w, rfl, rfl, _⟩ <;> rfl
        refine ⟨_, _, rfl, a, g, rfl, dg, ?_⟩
        rw [eg]
        exact out_val hh (.bl _) q
      · cases hg
    · cases hg
  · cases hg
theorem eOp_or {g1 g2 : List R → VEnv → Option (R × VEnv)} {m : M (List R)} (h : tV c W (eOp (opOr g1 g2) m) σ H Q) : tV c W (eOp g1 m) σ H Q ∨ tV c W (eOp g2 m) σ H Q := by
  obtain ⟨F, S, env, hh, res, e, q⟩ := h
  unfold eOp at e
  cases hm : m env with
  | none => rw [hm] at e; cases e
  | some rr =>
    rw [hm] at e
    cases rr with
    | ex x e1 => exact .inl ⟨F, S, env, hh, res, by unfold eOp; rw [hm]; exact e, q⟩
    | ok rs e1 =>
      simp only at e
      unfold opOr at e
      cases h1 : g1 rs e1 with
      | some y => rw [h1] at e; exact .inl ⟨F, S, env, hh, res, by unfold eOp; rw [hm]; simp only [h1]; exact e, q⟩
      | none => rw [h1] at e; exact .inr ⟨F, S, env, hh, res, by unfold eOp; rw [hm]; exact e, q⟩
def gIx3 := opOr gIx2 opIxD
theorem v_ixG3 {a b : Expr} {pos : Pos} (hu : X.A.units + 1 < cLine) (hK : c.K = X.K) (ha : PE X a (tV c W fa)) (hb : PE X b (tV c W fb)) (hp : PlainIx b) (hs : NoSl b := by exact fun _ _ => rfl) : PE X (.Subscript a b pos) (tV c W (eOp2 gIx3 fa fb)) :=
  PE_imp (PE_or (v_ixG2 (pos := pos) hK ha hb hp) (pe_dget (pos := pos) hu ha hb hs)) fun σ H Q h => by
    rcases eOp_or h with h | h
    · exact .inl h
    · exact .inr (op2_ok op_ixD h)
def gIn (neg : Bool) := opOr (opS (if neg then fNotIn else fIn)) (opInD neg)
theorem v_inG {a b : Expr} {pos : Pos} (hu : X.A.units + 65 < cLine) (hK : c.K = X.K) (ha : PE X a (tV c W fa)) (hb : PE X b (tV c W fb)) (hm : behindInMarks .In b = false) : PE X (.Compare a [.In] [b] pos) (tV c W (eOp2 (gIn false) fa fb)) :=
  PE_imp (PE_or (v_cmp (op := .In) (pos := pos) op_inS (by rw [hK]; exact opr_in hu) ha hb hm) (pe_cmp (pos := pos) (pc_din (by omega) ha hb) hm)) fun σ H Q h => by
    rcases eOp_or h with h | h
    · exact .inl h
    · refine .inr (tV_mono (op2_ok (r := rDIn false) op_inD h) fun y H1 h1 => tV_mono h1 fun x H2 ⟨a, o, e, dg, q⟩ => ⟨a, o, e, dg, ?_⟩)
      simpa using q
theorem v_notInG {a b : Expr} {pos : Pos} (hu : X.A.units + 65 < cLine) (hK : c.K = X.K) (ha : PE X a (tV c W fa)) (hb : PE X b (tV c W fb)) (hm : behindInMarks .NotIn b = false) : PE X (.Compare a [.NotIn] [b] pos) (tV c W (eOp2 (gIn true) fa fb)) :=
  PE_imp (PE_or (v_cmp (op := .NotIn) (pos := pos) op_notInS (by rw [hK]; exact opr_notIn hu) ha hb hm) (pe_cmp (pos := pos) (pc_dnotin (by omega) ha hb) hm)) fun σ H Q h => by
    rcases eOp_or h with h | h
    · exact .inl h
    · refine .inr (tV_mono (op2_ok (r := rDIn true) op_inD h) fun y H1 h1 => tV_mono h1 fun x H2 ⟨a, o, e, dg, q⟩ => ⟨a, o, e, dg, ?_⟩)
      simpa using q
end VS
namespace VS
open PySem L2
variable {c : Cn} {W : WX} {F F' F1 F2 H H' H1 H2 : Hp} {S S' S1 S2 : Nat → Set1} {T T' T1 T2 : Set1} {σ σ' σ1 : L2.St} {r : R} {v : V} {env env' env1 : VEnv} {Q : VK} {fa fb fc : EV} {qa qb : Rd} {X : Cx} {tg e : Expr}
theorem isDct_ok {F : Hp} {S : Nat → Set1} {env : VEnv} {H : Hp} {r : R} {v : V} {T : Set1} (hh : Hold c F S env σ H) (is : IsR c F H σ r v T) (h : isDctR r env = true) : ∃ a, v = .ref a ∧ IsD H a := by
  unfold isDctR at h
  split at h
  · rename_i t ks e1
    obtain ⟨T1, ro⟩ := is.get hh e1
    cases ro with
    | val rp _ =>
      cases rp with
      | dK hd => exact ⟨_, rfl, .inl ⟨_, rd_up hh.ex hd⟩⟩
      | dT hd => exact ⟨_, rfl, .inr ⟨_, rd_up hh.ex hd⟩⟩
  · rename_i t ks e1
    obtain ⟨T1, ro⟩ := is.get hh e1
    cases ro with
    | dK S hd => exact ⟨_, rfl, .inl ⟨_, .inl hd⟩⟩
    | dT S hd => exact ⟨_, rfl, .inr ⟨_, .inl hd⟩⟩
  · cases h
def rGet1 : List V → Hp → VK → Prop := fun xs H Q => ∃ a y, xs = [.ref a, y] ∧ ∃ o, DGet H a y o ∧ Q (o.getD .non) H
def rGet2 : List V → Hp → VK → Prop := fun xs H Q => ∃ a y z, xs = [.ref a, y, z] ∧ ∃ o, DGet H a y o ∧ Q (o.getD z) H
theorem op_get1 : Op c rGet1 opGet1 := by
  intro F S env σ H rs vs Ts r' env' Q hh t hg q
  unfold opGet1 at hg
  split at hg
  · rename_i r1 r2 en
    obtain ⟨v1, v2, rfl, i1, i2⟩ := two (rs := []) t
    split at hg
    · rename_i o k e1 e2
      split at hg
      · rename_i d hx
        cases hg
        obtain ⟨T1, ro⟩ := i1.get hh e1
        obtain ⟨a, rfl, hD, g, dg, hq⟩ := dget_ok hh.ex ro (i2.rep hh e2) hx
        rcases hq with ⟨h, _⟩ | ⟨o1, w, h, rfl, T2, ro2⟩
        · cases h
        · cases h
          exact ⟨a, _, rfl, _, dg, out_val hh (rep_val ro2) q⟩
      · rename_i hx
        cases hg
        obtain ⟨T1, ro⟩ := i1.get hh e1
        obtain ⟨a, rfl, hD, g, dg, hq⟩ := dget_ok hh.ex ro (i2.rep hh e2) hx
        rcases hq with ⟨_, rfl⟩ | ⟨o1, w, h, _⟩
        · exact ⟨a, _, rfl, _, dg, out_val hh .non q⟩
        · cases h
      · cases hg
    · cases hg
  · cases hg
theorem three {rs : List R} {vs : List V} {Ts : Nat → Set1} {r1 r2 r3 : R} (t : Temps c F S σ H [r1, r2, r3] vs Ts) : ∃ v1 v2 v3, vs = [v1, v2, v3] ∧ IsR c F H σ r1 v1 (Ts 0) ∧ IsR c F H σ r2 v2 (Ts 1) ∧ IsR c F H σ r3 v3 (Ts 2) := by
  match vs, t with
  | [v1, v2, v3], t => exact ⟨v1, v2, v3, rfl, t.is 0 r1 v1 rfl rfl, t.is 1 r2 v2 rfl rfl, t.is 2 r3 v3 rfl rfl⟩
  | [], t => have := t.len; simp at this
  | [_], t => have := t.len; simp at this
  | [_, _], t => have := t.len; simp at this
  | _ :: _ :: _ :: _ :: _, t => have := t.len; simp at this
theorem op_get2 : Op c rGet2 opGet2 := by
  intro F S env σ H rs vs Ts r' env' Q hh t hg q
  unfold opGet2 at hg
  split at hg
  · rename_i r1 r2 z en
    obtain ⟨v1, v2, v3, rfl, i1, i2, i3⟩ := three (rs := []) t
    split at hg
    · rename_i o k e1 e2
      split at hg
      · rename_i d hx
        cases hg
        obtain ⟨T1, ro⟩ := i1.get hh e1
        obtain ⟨a, rfl, hD, g, dg, hq⟩ := dget_ok hh.ex ro (i2.rep hh e2) hx
        rcases hq with ⟨h, _⟩ | ⟨o1, w, h, rfl, T2, ro2⟩
        · cases h
        · cases h
          exact ⟨a, _, _, rfl, _, dg, out_val hh (rep_val ro2) q⟩
      · rename_i hx
        cases hg
        obtain ⟨T1, ro⟩ := i1.get hh e1
        obtain ⟨a, rfl, hD, g, dg, hq⟩ := dget_ok hh.ex ro (i2.rep hh e2) hx
        rcases hq with ⟨_, rfl⟩ | ⟨o1, w, h, _⟩
        · exact ⟨a, _, _, rfl, _, dg, out_val hh (rep_val i3) q⟩
        · cases h
      · cases hg
    · cases hg
  · cases hg
theorem v_get1 {o e : Expr} {apos cpos : Pos} (hu : X.A.units + 1 < cLine) (ho : PE X o (tV c W fa)) (he : PE X e (tV c W fb)) (m : M1 X o "get" apos e cpos := by exact ⟨rfl, rfl, rfl, rfl⟩) : PE X (.Call (.Attribute o "get" apos) [e] [] cpos) (tV c W (eRecv isDctR fa [fb] opGet1)) :=
  PE_imp (pe_dget1 hu ho he m) fun σ H Q h => by
    refine tV_mono (recv_ok op_get1 (P := fun v H => ∃ a, v = .ref a ∧ IsD H a) (fun F S env H r v T hh is h => isDct_ok hh is h) h) fun x H1 ⟨⟨a, ex, hD⟩, h1⟩ => ⟨a, ex, hD, ?_⟩
    refine tV_mono (args_cons h1) fun y H2 h2 => ?_
    obtain ⟨a', y', e, o, dg, q⟩ := args_nil h2
    simp only [List.cons.injEq, and_true] at e
    obtain ⟨e1, rfl⟩ := e
    rw [ex] at e1
    cases e1
    exact ⟨o, dg, q⟩
theorem v_get2 {o e f : Expr} {apos cpos : Pos} (hu : X.A.units + 1 < cLine) (ho : PE X o (tV c W fa)) (he : PE X e (tV c W fb)) (hf : PE X f (tV c W fc)) (m : M2 X o "get" apos e f cpos := by exact ⟨rfl, rfl, rfl, rfl⟩) : PE X (.Call (.Attribute o "get" apos) [e, f] [] cpos) (tV c W (eRecv isDctR fa [fb, fc] opGet2)) :=
  PE_imp (pe_dget2 hu ho he hf m) fun σ H Q h => by
    refine tV_mono (recv_ok op_get2 (P := fun v H => ∃ a, v = .ref a ∧ IsD H a) (fun F S env H r v T hh is h => isDct_ok hh is h) h) fun x H1 ⟨⟨a, ex, hD⟩, h1⟩ => ⟨a, ex, hD, ?_⟩
    refine tV_mono (args_cons h1) fun y H2 h2 => ?_
    refine tV_mono (args_cons h2) fun z H3 h3 => ?_
    obtain ⟨a', y', z', e, o, dg, q⟩ := args_nil h3
    simp only [List.cons.injEq, and_true] at e
    obtain ⟨e1, rfl, rfl⟩ := e
    rw [ex] at e1
    cases e1
    exact ⟨o, dg, q⟩
end VS
namespace VS
open PySem L2
variable {c : Cn} {W : WX} {F F' F1 F2 H H' H1 H2 : Hp} {S S' S1 S2 : Nat → Set1} {T T' T1 T2 : Set1} {σ σ' σ1 : L2.St} {r : R} {v : V} {env env' env1 : VEnv} {Q : VK} {fa fb fc : EV} {qa qb : Rd} {X : Cx} {tg e : Expr}
theorem any_pw {α β : Type} {p : α → Bool} {q : β → Bool} : ∀ {xs : List α} {ys : List β}, xs.length = ys.length → (∀ (k : Nat) x y, xs[k]? = some x → ys[k]? = some y → p x = q y) → xs.any p = ys.any q
  | [], [], _, _ => rfl
  | [], _ :: _, hl, _ => by simp at hl
  | _ :: _, [], hl, _ => by simp at hl
  | x :: xs, y :: ys, hl, h => by
    rw [List.any_cons, List.any_cons, h 0 x y rfl rfl, any_pw (by simpa using hl) fun k x y hx hy => h (k + 1) x y (by simpa using hx) (by simpa using hy)]
theorem putK_pw {κ : Type} [DecidableEq κ] (kd : κ → D) (hk : ∀ a b, keyB (kd a) (kd b) = decide (a = b)) {kvs : List (κ × V)} {ks : List (D × O)} (hl : kvs.length = ks.length) (hkk : ∀ (j : Nat) kv p, kvs[j]? = some kv → ks[j]? = some p → p.1 = kd kv.1) (kk : κ) (w : V) (o : O) :
    (putK kvs kk w).length = (putKD ks (kd kk) o).length ∧ ks.length ≤ (putKD ks (kd kk) o).length ∧ ∀ (j : Nat) kv p, (putK kvs kk w)[j]? = some kv → (putKD ks (kd kk) o)[j]? = some p → p.1 = kd kv.1 ∧
      ((kv.2 = w ∧ p.2 = o) ∨ ∃ kv0 p0, kvs[j]? = some kv0 ∧ ks[j]? = some p0 ∧ kv.2 = kv0.2 ∧ p.2 = p0.2 ∧ keyB p0.1 (kd kk) = false) := by
  have ha : (ks.any fun p => keyB p.1 (kd kk)) = kvs.any fun kv => decide (kv.1 = kk) := any_pw hl.symm fun j p kv hp hkv => by rw [hkk j kv p hkv hp, hk]
  unfold putK putKD
  rw [ha]
  split
  · refine ⟨by simp [hl], by simp, fun j kv p hkv hp => ?_⟩
    rw [List.getElem?_map] at hkv hp
    obtain ⟨kv0, h1, rfl⟩ := Option.map_eq_some_iff.mp hkv
    obtain ⟨p0, h2, rfl⟩ := Option.map_eq_some_iff.mp hp
    have e0 := hkk j kv0 p0 h1 h2
    have e1 : keyB p0.1 (kd kk) = decide (kv0.1 = kk) := by rw [e0, hk]
    by_cases hc : kv0.1 = kk
    · rw [if_pos hc, if_pos (by rw [e1]; exact decide_eq_true hc)]
      exact ⟨e0, .inl ⟨rfl, rfl⟩⟩
    · rw [if_neg hc, if_neg (by rw [e1]; simp [hc])]
      exact ⟨e0, .inr ⟨kv0, p0, h1, h2, rfl, rfl, by rw [e1]; simp [hc]⟩⟩
  · rename_i hn
    refine ⟨by simp [hl], by simp, fun j kv p hkv hp => ?_⟩
    by_cases hj : j < ks.length
    · rw [List.getElem?_append_left (by omega)] at hkv
      rw [List.getElem?_append_left hj] at hp
      have e0 := hkk j kv p hkv hp
      refine ⟨e0, .inr ⟨kv, p, hkv, hp, rfl, rfl, ?_⟩⟩
      rw [e0, hk]
      simp only [decide_eq_false_iff_not]
      intro hc
      exact hn (List.any_eq_true.mpr ⟨kv, List.mem_of_getElem? hkv, by simpa using hc⟩)
    · rw [List.getElem?_append_right (by omega)] at hkv
      rw [List.getElem?_append_right (by omega)] at hp
      by_cases h0 : j - ks.length = 0
      · rw [h0] at hp
        rw [hl, h0] at hkv
        cases hkv
        cases hp
        exact ⟨rfl, .inl ⟨rfl, rfl⟩⟩
      · rw [List.getElem?_eq_none (by simp; omega)] at hp
        cases hp
theorem vAt_up (e : Same H H') : ∀ {w v : V} {p : List Nat}, vAt H w p = some v → vAt H' w p = some v
  | w, v, [], h => by unfold vAt at h ⊢; exact h
  | .ref a, v, k :: p, h => by
    have h' : (vKid H a k).bind (fun w => vAt H w p) = some v := h
    obtain ⟨w2, h1, h2⟩ := Option.bind_eq_some_iff.mp h'
    show (vKid H' a k).bind (fun w => vAt H' w p) = some v
    rw [vKid_up e h1]
    exact vAt_up e h2
  | .non, _, _ :: _, h => by cases h
  | .bl _, _, _ :: _, h => by cases h
  | .int _, _, _ :: _, h => by cases h
  | .str _, _, _ :: _, h => by cases h
  | .byt _, _, _ :: _, h => by cases h
  | .flt _, _, _ :: _, h => by cases h
  | .ty _, _, _ :: _, h => by cases h
theorem ro_val_none {d : D} (ro : RO c F H v (.val d) T) (x : Addr) : ¬ T x := by cases ro with | val _ hn => exact hn x
theorem dput_ok {t : Bool} {ks : List (D × O)} {k d : D} {y : V} {H3 : Hp} (ro : RO c F H3 v (.dct t ks) T) (rk : Rep c H3 y k) (hk : okKey t k = true) (hz : ks.length < maxLen) {w : V} {F' : Hp} (eF : Same F F') (rd : Rep c F' w d) :
    ∃ a H4, v = .ref a ∧ T a ∧ DPut H3 a y w H4 ∧ (∀ x u, H3 x = some u → x ≠ a → H4 x = some u) ∧ ∃ T', RO c F' H4 (.ref a) (.dct t (putKD ks k (.val d))) T' ∧ T' a ∧ ∀ x, T' x → T x := by
  cases ro with
  | @dK a kvs _ _ S hd hl hkk hr dj bd hT =>
    obtain ⟨kk, rfl, rfl⟩ := sc_key hk rk
    obtain ⟨p1, p2, p3⟩ := putK_pw keyD keyB_key hl hkk kk w (.val d)
    have sm : ∀ x u, H3 x = some u → x ≠ a → upd H3 a (.dK (putK kvs kk w)) x = some u := fun x u e hx => by rw [upd_ne hx]; exact e
    refine ⟨a, _, rfl, (hT a).mpr (.inl rfl), DPut.k hd (by rw [hl]; exact Nat.lt_of_lt_of_le hz (maxLen_le (Nat.le_refl _))), sm, fun x => x = a ∨ ∃ j, S j x ∧ ∀ p0, ks[j]? = some p0 → keyB p0.1 (keyD kk) = false, ?_, .inl rfl, fun x hx => ?_⟩
    · refine .dK (fun j x => S j x ∧ ∀ p0, ks[j]? = some p0 → keyB p0.1 (keyD kk) = false) upd_same p1 (fun j kv p hkv hp => (p3 j kv p hkv hp).1) (fun j kv p hkv hp => ?_) (fun i j x h h' => dj i j x h.1 h'.1) (fun j x h => ⟨(bd j x h.1).1, Nat.lt_of_lt_of_le (bd j x h.1).2 p2⟩) fun x => Iff.rfl
      rcases (p3 j kv p hkv hp).2 with ⟨e1, e2⟩ | ⟨kv0, p0, h1, h2, e1, e2, h3⟩
      · rw [e1, e2]
        refine .val rd fun x hx => ?_
        obtain ⟨h1, h2⟩ := hx
        obtain ⟨kv0, p0, h3, h4⟩ := get_of_lt hl (bd j x h1).2
        have h5 := h2 p0 h4
        have : p = p0 := by
          unfold putKD at hp
          split at hp
          · rw [List.getElem?_map, h4] at hp
            simp only [Option.map_some, h5, Bool.false_eq_true, if_false, Option.some.injEq] at hp
            exact hp.symm
          · rw [List.getElem?_append_left (List.getElem?_eq_some_iff.mp h4).1, h4] at hp
            exact (Option.some.inj hp).symm
        subst this
        have ro0 := hr j kv0 p h3 h4
        rw [e2] at ro0
        exact ro_val_none ro0 x h1
      · rw [e1, e2]
        have es : (fun x => S j x ∧ ∀ p0, ks[j]? = some p0 → keyB p0.1 (keyD kk) = false) = S j := funext fun x => propext ⟨fun h => h.1, fun h => ⟨h, fun p1 hp1 => by rw [h2] at hp1; cases hp1; exact h3⟩⟩
        rw [es]
        exact (hr j kv0 p0 h1 h2).up eF fun x u hx hu => sm x u hu (bd j x hx).1
    · rcases hx with rfl | ⟨j, hj, _⟩
      · exact (hT _).mpr (.inl rfl)
      · exact (hT x).mpr (.inr ⟨j, hj⟩)
  | @dT a kvs _ _ S hd hl hkk hr dj bd hT =>
    cases rk with
    | @tup b vs ds hb hlv hrv =>
      obtain ⟨kk, rfl, rfl⟩ := sc_keys hk hlv hrv
      obtain ⟨p1, p2, p3⟩ := putK_pw (fun l : List Key => D.tup (l.map keyD)) keyB_tup hl hkk kk w (.val d)
      have sm : ∀ x u, H3 x = some u → x ≠ a → upd H3 a (.dT (putK kvs kk w)) x = some u := fun x u e hx => by rw [upd_ne hx]; exact e
      refine ⟨a, _, rfl, (hT a).mpr (.inl rfl), DPut.t hd hb (by rw [hl]; exact Nat.lt_of_lt_of_le hz (maxLen_le (Nat.le_refl _))), sm, fun x => x = a ∨ ∃ j, S j x ∧ ∀ p0, ks[j]? = some p0 → keyB p0.1 (.tup (kk.map keyD)) = false, ?_, .inl rfl, fun x hx => ?_⟩
      · refine .dT (fun j x => S j x ∧ ∀ p0, ks[j]? = some p0 → keyB p0.1 (.tup (kk.map keyD)) = false) upd_same p1 (fun j kv p hkv hp => (p3 j kv p hkv hp).1) (fun j kv p hkv hp => ?_) (fun i j x h h' => dj i j x h.1 h'.1) (fun j x h => ⟨(bd j x h.1).1, Nat.lt_of_lt_of_le (bd j x h.1).2 p2⟩) fun x => Iff.rfl
        rcases (p3 j kv p hkv hp).2 with ⟨e1, e2⟩ | ⟨kv0, p0, h1, h2, e1, e2, h3⟩
        · rw [e1, e2]
          refine .val rd fun x hx => ?_
          obtain ⟨h1, h2⟩ := hx
          obtain ⟨kv0, p0, h3, h4⟩ := get_of_lt hl (bd j x h1).2
          have h5 := h2 p0 h4
          have : p = p0 := by
            unfold putKD at hp
            split at hp
            · rw [List.getElem?_map, h4] at hp
              simp only [Option.map_some, h5, Bool.false_eq_true, if_false, Option.some.injEq] at hp
              exact hp.symm
            · rw [List.getElem?_append_left (List.getElem?_eq_some_iff.mp h4).1, h4] at hp
              exact (Option.some.inj hp).symm
          subst this
          have ro0 := hr j kv0 p h3 h4
          rw [e2] at ro0
          exact ro_val_none ro0 x h1
        · rw [e1, e2]
          have es : (fun x => S j x ∧ ∀ p0, ks[j]? = some p0 → keyB p0.1 (.tup (kk.map keyD)) = false) = S j := funext fun x => propext ⟨fun h => h.1, fun h => ⟨h, fun p1 hp1 => by rw [h2] at hp1; cases hp1; exact h3⟩⟩
          rw [es]
          exact (hr j kv0 p0 h1 h2).up eF fun x u hx hu => sm x u hu (bd j x hx).1
      · rcases hx with rfl | ⟨j, hj, _⟩
        · exact (hT _).mpr (.inl rfl)
        · exact (hT x).mpr (.inr ⟨j, hj⟩)
    | _ => cases hk
theorem s_setK {pl : Pl} {q : Rd} {D : Ends} (hs : tS c W (sSetK pl q fa) D σ H) : sDPut (tPl c pl) (tR c q) (tV c W fa) D σ H :=
  exprS hs fun r e1 F S env res F1 S1 T1 v H1 g1 hh1 k1 is1 e qq => by
    have t1 : Temps c F1 S1 σ H1 [r] [v] _ := Temps.one is1 g1.dT g1.oT
    cases hst : r.settle e1 with
    | none => rw [hst] at e; cases e
    | some p0 =>
      obtain ⟨x, e2⟩ := p0
      rw [hst] at e
      simp only at e
      obtain ⟨F2, S2, hh2, t2, g2, k2⟩ := settles_ok (os := [x]) hh1 t1 (by unfold settles; rw [hst]; rfl)
      split at e
      · rename_i i p k hpl hq
        split at e
        · rename_i t ks hat
          split at e
          · rename_i hc
            obtain ⟨hk, hz⟩ := hc
            cases e
            refine ⟨F2, S2, e2, hh2, i, p, _, hpl, hat, fun w a0 hw hv => ?_⟩
            refine ⟨F2, S2, e2, hh2, k, hq, fun y Ty H3 eH ry => ?_⟩
            have hh3 := hh2.grow eH
            have rox : RO c F2 H3 v x T1 := by
              have : RO c F2 H1 v x (fun y => (0 : Nat) = 0 ∧ T1 y) := t2.is 0 (.o x) v rfl rfl
              have eT : (fun y => (0 : Nat) = 0 ∧ T1 y) = T1 := funext fun y => propext ⟨fun h => h.2, fun h => ⟨rfl, h⟩⟩
              rw [eT] at this
              exact this.up Same.rfl' fun y u _ hu => eH y u hu
            have dS : ∀ j y, T1 y → ¬ S2 j y := fun j y hy => t2.offS 0 j y ⟨rfl, hy⟩
            have oF : ∀ y, T1 y → F2 y = none := fun y hy => t2.offF 0 y ⟨rfl, hy⟩
            obtain ⟨w', v1, T3, hw', vp, ro, s3, up⟩ := hh3.place hat
            rw [hw] at hw'; cases hw'
            have hv1 := vp.at_ hh3.ex
            rw [vAt_up eH hv] at hv1; cases hv1
            obtain ⟨F', hF1, hF2⟩ := cut_region H3 F2 T1
            have eF : Same F2 F' := fun b u e => by
              rw [hF2 b fun hs => by rw [oF b hs] at e; cases e]
              exact e
            have eH3 : Same F' H3 := fun b u e => by
              by_cases hs : T1 b
              · rw [hF1 b hs] at e; exact e
              · rw [hF2 b hs] at e; exact hh3.ex b u e
            have rpx : Rep c F' v x.data := rox.rep eF fun y u hy hu => by rw [hF1 y hy]; exact hu
            have rky : Rep c H3 y k.data := ry.rep hh3.ex fun _ u _ hu => hu
            obtain ⟨a, H4, rfl, Ta, dp, sm, T4, ro4, T4a, s4⟩ := dput_ok ro rky hk hz eF rpx
            refine ⟨a, H4, rfl, dp, ?_⟩
            have Sa := s3 a Ta
            have nT1 : ∀ y, S2 i y → ¬ T1 y := fun y hy ht => dS i y ht hy
            obtain ⟨S5, hh5, g5⟩ := up F' H4 _ T4 (fun y => un S2 y ∨ T1 y) eF (fun b u hb => sm b u (eH3 b u hb) fun z => by subst z; rw [hF2 b (nT1 b Sa), hh2.off i b Sa] at hb; cases hb) (fun y u hu hn => sm y u hu fun z => by subst z; exact hn Ta) ro4
              (fun y hy => .inl (s4 y hy)) (fun y hy => by rw [hF2 y (nT1 y (s3 y (s4 y hy)))]; exact hh2.off i y (s3 y (s4 y hy))) (fun j y hs _ => by rw [hF2 y (fun ht => dS j y ht hs)]; exact hh2.off j y hs) (fun y hy => .inl hy) fun y hy => by
                by_cases hs : T1 y
                · exact .inr (.inl (.inr hs))
                · rw [hF2 y hs] at hy; exact .inl hy
            refine qq F' S5 noT σ H4 ?_ hh5 ((k1.trans k2).trans Kp_putP)
            have gA := g1.add (T' := fun x => (0 : Nat) = 0 ∧ T1 x) g2 (fun x h => .inl h) (fun x h => .inl h.2) (fun x h => t2.offF 0 x ⟨rfl, h⟩) fun i x h => t2.offS 0 i x ⟨rfl, h⟩
            have gB : Go F2 (fun y => un S2 y ∨ T1 y) H1 F' S5 noT H4 := by
              refine ⟨eF, fun y u hu hn => g5.fr y u (eH y u hu) hn, fun j y hy => ?_, fun y h => h.elim, fun y hy => ?_, fun j y h => h.elim, fun y h => h.elim⟩
              · rcases g5.nS j y hy with h | h
                · exact .inl h
                · refine .inr (none_of_ne fun hn => ?_)
                  cases hx : H1 y with
                  | none => exact hn hx
                  | some u => rw [eH y u hx] at h; cases h
              · rcases g5.nF y hy with h | h | h | ⟨xs, h⟩
                · exact .inl h
                · exact .inr (.inl h)
                · refine .inr (.inr (.inl (none_of_ne fun hn => ?_)))
                  cases hx : H1 y with
                  | none => exact hn hx
                  | some u => rw [eH y u hx] at h; cases h
                · cases hx : H1 y with
                  | none => exact .inr (.inr (.inl rfl))
                  | some u => have := eH y u hx; rw [h] at this; cases this; exact .inr (.inr (.inr ⟨xs, rfl⟩))
            exact gA.trans gB fun x hx => hx.imp id fun h => ⟨rfl, h⟩
          · cases e
        · cases e
      · cases e
theorem vs_setK {pl : Pl} {q : Rd} {o i e : Expr} {pos pos' : Pos} (hu : X.A.units + 1 < cLine) (ho : PE X o (tPl c pl)) (hi : PE X i (tR c q)) (he : PE X e (tV c W fa)) (hs : swapsWith e (some (.Subscript o i pos')) pos.line X.env = pure false := by rfl) :
    PS X (.Assign [.Subscript o i pos'] e pos) (tS c W (sSetK pl q fa)) := PS_imp (ps_dput hu ho hi he hs) fun D σ H h => s_setK h
end VS
namespace L2
open PySem PySem.Spec PyProof.Rows
section
variable {X : Cx} {CX : CXT} {k : Nat} {f C : Addr} {fd : FuncData} {ps : List Str} {sp : Sp} {E : St → XK} {x m : Str} {p pos apos : Pos} {e o : Expr} {es : List Expr} {ta : TE} {t : TA}
def tMethV (C : Addr) (m : Str) (sp : Sp) (E : St → XK) (ta : TE) (t : TA) : TE := fun σ H Q => ta σ H fun x H1 => ∃ a dx fs, x = .ref a ∧ H1 a = some (.ins C dx fs) ∧ fs.lookup m = none ∧ t σ H1 fun vs H2 => sp (x :: vs) H2 Q (E σ)
def tMakeV (C : Addr) (sp : Sp) (E : St → XK) (t : TA) : TE := fun σ H Q => t σ H fun vs H1 => ∀ x dx, H1 x = none → H1 dx = none → dx ≠ x → sp (.ref x :: vs) (upd (upd H1 dx (.own x)) x (.ins C dx [])) (fun v H2 => v = .non ∧ Q (.ref x) H2) (E σ)
theorem pe_methV {pl : Sem Bool} (he : PE X o ta) (c : Cls X.K C) (hm : Meth X.K C m f) (F : FnOk X.prog X.w X.K X.mg X.base CX k f fd ps sp) (hr : Room k X.A) (hb : Binds X.K fd ps []) (hx : ∀ σ, PassesAt CX X σ (E σ)) (ha : PA X (e :: es) t)
    (hst : starEach (e :: es) X.env = (false, eval e X.env) :: starEach es X.env := by rfl) (hpl : (backTo pos (starEach es X.env)).any (·.1) = false := by rfl)
    (ht : eval (.Call (.Attribute o m apos) (e :: es) [] pos) X.env = (do
      let ov ← eval o X.env
      standAt apos.atName
      let (f, first) ← holding [ov] (getMethod ov m pl)
      callWith pos f first (backTo pos (starEach (e :: es) X.env)) (backToKw pos (keywordEach [] X.env))) := by rfl) :
    PE X (.Call (.Attribute o m apos) (e :: es) [] pos) (tMethV C m sp E ta t) := by
  refine ⟨fun pins s σ H Q I h => ?_⟩
  refine PySem.W.methodCall_KW (pl := pl) (thn (he.run pins s σ H _ I h) fun u s1 ⟨x, H1, I1, rx, a, dx, fs, ex, ea, l, q⟩ => ?_) ht
  subst ex
  obtain rfl : u = Value.ref a := rx
  refine getmeth_ok I1 ea c hm l ?_
  refine PySem.W.callWith_K (first := [.ref a]) (h₀ := X.base) I.ok.mod.kin hm.kp (thn (ha.run pos pins s1 σ H1 _ I1 q) fun us s2 ⟨vs, H2, I2, r, q2⟩ => ⟨I2.kIn, ?_⟩) hst hpl
  exact run_fnS (us := .ref a :: us) (vs := .ref a :: vs) F hr hb (hx σ) I2 (.cons rfl r) q2
theorem pe_methV0 {pl : Sem Bool} (he : PE X o ta) (c : Cls X.K C) (hm : Meth X.K C m f) (F : FnOk X.prog X.w X.K X.mg X.base CX k f fd ps sp) (hr : Room k X.A) (hb : Binds X.K fd ps []) (hx : ∀ σ, PassesAt CX X σ (E σ))
    (ht : eval (.Call (.Attribute o m apos) [] [] pos) X.env = (do
      let ov ← eval o X.env
      standAt apos.atName
      let (f, first) ← holding [ov] (getMethod ov m pl)
      callWith pos f first (backTo pos (starEach [] X.env)) (backToKw pos (keywordEach [] X.env))) := by rfl) :
    PE X (.Call (.Attribute o m apos) [] [] pos) (tMethV C m sp E ta tNil) := by
  refine ⟨fun pins s σ H Q I h => ?_⟩
  refine PySem.W.methodCall_KW (pl := pl) (thn (he.run pins s σ H _ I h) fun u s1 ⟨x, H1, I1, rx, a, dx, fs, ex, ea, l, q⟩ => ?_) ht
  subst ex
  obtain rfl : u = Value.ref a := rx
  refine getmeth_ok I1 ea c hm l ?_
  exact PySem.W.callWith_K0 (first := [.ref a]) I1.kIn hm.kp (run_fnS (us := [.ref a]) (vs := [.ref a]) F hr hb (hx σ) I1 (.cons rfl .nil) q)
theorem run_makeV {pins : List (Addr × Obj)} {σ : St} {H : Hp} {s : Shared} {Q : VK} {us : List Value} {vs : List V} {E : XK} (M : Mk X.K C f) (F : FnOk X.prog X.w X.K X.mg X.base CX k f fd ps sp) (hr : Room (k + 1) X.A) (hb : Binds X.K fd ps [])
    (hx : PassesAt CX X σ E) (I : Inv X pins σ H s) (r : Vals vs us)
    (h : ∀ x dx, H x = none → H dx = none → dx ≠ x → sp (.ref x :: vs) (upd (upd H dx (.own x)) x (.ins C dx [])) (fun v H2 => v = .non ∧ Q (.ref x) H2) E) :
    wpAny (model X.prog X.w) X.A (call (.ref C) us) (EP X pins σ Q) X.xe s := by
  have hq := h (s.heap.objs.size + 1) s.heap.objs.size (I.hok.fresh (Nat.le_succ _)) (I.hok.fresh (Nat.le_refl _)) (Nat.ne_of_lt (Nat.lt_succ_self _))
  have I2 := Inv.made (C := C) I
  have r2 : Vals (V.ref (s.heap.objs.size + 1) :: vs) (Value.ref (s.heap.objs.size + 1) :: us) := .cons rfl r
  have hl : (Value.ref (s.heap.objs.size + 1) :: us).length = ps.length := by
    have e := r2.length
    rw [F.len _ _ _ _ hq] at e
    exact e.symm
  refine wpAny_call (make_map (f := f) I.kIn M.makes M.init (beq_iff_eq.mp M.fn) (codeAny_mono (F.run _ X.stack _ _ ⟨Value.ref (s.heap.objs.size + 1) :: us, []⟩ (Value.ref (s.heap.objs.size + 1) :: us) _ _ E (hr.make C us [])
    (I2.env0.make C us []) (by have := hb _ (Value.ref (s.heap.objs.size + 1) :: us) I2.kIn (by rw [List.append_nil]; exact hl); rw [List.append_nil] at this; exact this) r2 hq) fun r s' hq' => ?_))
  cases r with
  | error e => exact hx pins _ _ e s' I2 hq'
  | ok fl =>
    cases fl with
    | ret u =>
      obtain ⟨v, H', I3, rv, ev, q3⟩ := I2.after hq'
      subst ev
      exact ⟨rv, ⟨V.ref (s.heap.objs.size + 1), H', I3, rfl, q3⟩⟩
    | next => exact False.elim hq'
    | brk => exact False.elim hq'
    | cont => exact False.elim hq'
theorem pe_makeV (M : Mk X.K C f) (F : FnOk X.prog X.w X.K X.mg X.base CX k f fd ps sp) (hr : Room (k + 1) X.A) (hg : Gl X x) (hm : X.mg x = some (.ref C)) (hb : Binds X.K fd ps []) (hx : ∀ σ, PassesAt CX X σ (E σ))
    (ha : PA X (e :: es) t) (hdb : (x == ("__debug__" : Str)) = false := by decide) (he : starEach (e :: es) X.env = (false, eval e X.env) :: starEach es X.env := by rfl) (hpl : (backTo pos (starEach es X.env)).any (·.1) = false := by rfl) :
    PE X (.Call (.Name x p) (e :: es) [] pos) (tMakeV C sp E t) := by
  refine ⟨fun pins s σ H Q I h => ?_⟩
  refine wpAny_Call_Name_kw (ld_glob I hg hm ?_ hdb)
  refine PySem.W.callWith_K (h₀ := X.base) I.ok.mod.kin M.kp (thn (ha.run pos pins s σ H _ I h) fun us s1 ⟨vs, H1, I1, r, q⟩ => ⟨I1.kIn, ?_⟩) he hpl
  exact run_makeV M F hr hb (hx σ) I1 r q
theorem pe_makeV0 (M : Mk X.K C f) (F : FnOk X.prog X.w X.K X.mg X.base CX k f fd ps sp) (hr : Room (k + 1) X.A) (hg : Gl X x) (hm : X.mg x = some (.ref C)) (hb : Binds X.K fd ps []) (hx : ∀ σ, PassesAt CX X σ (E σ))
    (hdb : (x == ("__debug__" : Str)) = false := by decide) : PE X (.Call (.Name x p) [] [] pos) (tMakeV C sp E tNil) := by
  refine ⟨fun pins s σ H Q I h => ?_⟩
  refine wpAny_Call_Name_kw (ld_glob I hg hm ?_ hdb)
  exact PySem.W.callWith_K0 I.kIn M.kp (run_makeV (us := []) M F hr hb (hx σ) I .nil h)
end
end L2
namespace VS
open PySem L2
variable {c : Cn} {W : WX} {F F' F1 F2 H H' H1 H2 : Hp} {S S' S1 S2 : Nat → Set1} {T T' T1 T2 : Set1} {σ σ' σ1 : L2.St} {r : R} {v : V} {env env' env1 : VEnv} {Q : VK} {fa fb fc : EV} {qa qb : Rd} {X : Cx} {tg e : Expr}
def consS (A : Set1) (S : Nat → Set1) : Nat → Set1
  | 0 => A
  | i + 1 => S i
def tailS (S : Nat → Set1) : Nat → Set1 := fun i => S (i + 1)
theorem make_sp {n : Nat} {C : Addr} {ms : List Bool} {g : Fn} {vs : List V} {E : XK} (hC : c.mg (c.nm n) = some (.ref C)) (h : spV c ms (mkFn n g) vs H Q E) :
    ∀ x dx, H x = none → H dx = none → dx ≠ x → spV c (true :: ms) g (.ref x :: vs) (upd (upd H dx (.own x)) x (.ins C dx [])) (fun v H2 => v = .non ∧ Q (.ref x) H2) E := by
  intro x dx hx hd hne
  obtain ⟨F, S, os, hA, ha, res, hg, q⟩ := h
  have sm : ∀ b u, H b = some u → upd (upd H dx (.own x)) x (.ins C dx []) b = some u := fun b u e => by
    rw [upd_ne (fun z => by subst z; rw [hx] at e; cases e), upd_ne (fun z => by subst z; rw [hd] at e; cases e)]
    exact e
  have back : ∀ b, upd (upd H dx (.own x)) x (.ins C dx []) b = none → H b = none := fun b e => by
    refine none_of_ne fun hn => ?_
    cases hb : H b with
    | none => exact hn hb
    | some u => rw [sm b u hb] at e; cases e
  have nS : ∀ j b, S j b → ∃ u, H b = some u := fun j b hb => by
    obtain ⟨o, ho⟩ := hA.dead j b hb
    obtain ⟨w, _, ro⟩ := hA.cell j o ho
    obtain ⟨u, hu, _⟩ := ro.own b hb
    exact ⟨u, hu⟩
  have hF : ∀ b, H b = none → F b = none := fun b e => none_of_ne fun hn => by
    cases hb : F b with
    | none => exact hn hb
    | some u => rw [hA.ex b u hb] at e; cases e
  have hA2 : HoldA c F (consS (fun b => b = x) S) (.ins n [] :: os) (.ref x :: vs) (upd (upd H dx (.own x)) x (.ins C dx [])) := by
    refine ⟨fun b u e => sm b u (hA.ex b u e), by simp only [List.length_map, List.length_cons]; have := hA.len; simp only [List.length_map] at this; omega, fun i o ho => ?_, fun i j b hi hj => ?_, fun i b hb => ?_, fun i b hb => ?_⟩
    · rw [loc_at] at ho
      cases i with
      | zero =>
        cases ho
        refine ⟨.ref x, rfl, .ins (fun _ => noT) hC upd_same rfl (fun k f d hf => by simp at hf) (fun k f d hf => by simp at hf) (fun i j b h => h.elim) (fun k b h => h.elim) fun b => ⟨.inl, fun h => h.elim id fun ⟨_, z⟩ => z.elim⟩⟩
      | succ i =>
        have ho' : os[i]? = some o := by simpa using ho
        obtain ⟨w, hw, ro⟩ := hA.cell i o (by rw [loc_at]; exact ho')
        exact ⟨w, by simpa using hw, ro.up Same.rfl' fun b u _ hu => sm b u hu⟩
    · cases i with
      | zero =>
        cases j with
        | zero => rfl
        | succ j =>
          have hi' : b = x := hi
          subst hi'
          obtain ⟨u, hu⟩ := nS j b hj
          rw [hx] at hu; cases hu
      | succ i =>
        cases j with
        | zero =>
          have hj' : b = x := hj
          subst hj'
          obtain ⟨u, hu⟩ := nS i b hi
          rw [hx] at hu; cases hu
        | succ j => rw [hA.dis i j b hi hj]
    · cases i with
      | zero => have hb' : b = x := hb; subst hb'; exact hF b hx
      | succ i => exact hA.off i b hb
    · cases i with
      | zero => exact ⟨_, by rw [loc_at]; rfl⟩
      | succ i =>
        obtain ⟨o, ho⟩ := hA.dead i b hb
        rw [loc_at] at ho
        exact ⟨o, by rw [loc_at]; simpa using ho⟩
  have unB : ∀ b, un (consS (fun b => b = x) S) b → un S b ∨ H b = none := fun b ⟨j, hj⟩ => by
    cases j with
    | zero => have hb : b = x := hj; subst hb; exact .inr hx
    | succ j => exact .inl ⟨j, hj⟩
  have go : ∀ {F' S2 T H2}, Go F (un (consS (fun b => b = x) S)) (upd (upd H dx (.own x)) x (.ins C dx [])) F' S2 T H2 → ∀ T', (∀ b, T' b → un S2 b ∨ T b) → (∀ i b, T' b → ¬ S2 (i + 1) b) → (∀ b, T' b → F' b = none) → Go F (un S) H F' (tailS S2) T' H2 := by
    intro F' S2 T H2 g T' hT dT oT
    have bk : ∀ b, (un (consS (fun b => b = x) S) b ∨ upd (upd H dx (.own x)) x (.ins C dx []) b = none) → un S b ∨ H b = none := fun b h => h.elim (unB b) fun h => .inr (back b h)
    refine ⟨g.exF, fun b u hu hn => g.fr b u (sm b u hu) fun h => ?_, fun i b hb => bk b (g.nS (i + 1) b hb), fun b hb => ?_, fun b hb => ?_, dT, oT⟩
    · rcases unB b h with h | h
      · exact hn h
      · rw [h] at hu; cases hu
    · rcases hT b hb with ⟨i, h⟩ | h
      · exact bk b (g.nS i b h)
      · exact bk b (g.nT b h)
    · rcases g.nF b hb with h | h | h | ⟨xs, h⟩
      · exact .inl h
      · rcases unB b h with h | h
        · exact .inr (.inl h)
        · exact .inr (.inr (.inl h))
      · exact .inr (.inr (.inl (back b h)))
      · by_cases e1 : b = x
        · subst e1; rw [upd_same] at h; cases h
        · rw [upd_ne e1] at h
          by_cases e2 : b = dx
          · subst e2; rw [upd_same] at h; cases h
          · rw [upd_ne e2] at h; exact .inr (.inr (.inr ⟨xs, h⟩))
  have tl : ∀ {F' S2 o os' H2}, HoldA c F' S2 (o :: os') (.ref x :: vs) H2 → HoldA c F' (tailS S2) os' vs H2 := by
    intro F' S2 o os' H2 h
    refine ⟨h.ex, by have := h.len; simp only [List.length_map, List.length_cons] at this ⊢; omega, fun i o' ho => ?_, fun i j b hi hj => by have := h.dis _ _ b hi hj; omega, fun i b hb => h.off (i + 1) b hb, fun i b hb => ?_⟩
    · rw [loc_at] at ho
      obtain ⟨w, hw, ro⟩ := h.cell (i + 1) o' (by rw [loc_at]; simpa using ho)
      exact ⟨w, by simpa using hw, ro⟩
    · obtain ⟨o', ho⟩ := h.dead (i + 1) b hb
      rw [loc_at] at ho
      exact ⟨o', by rw [loc_at]; simpa using ho⟩
  refine ⟨F, _, _, hA2, ?_, ?_⟩
  · show argsOk (true :: ms) (.ins n [] :: os) = true
    unfold argsOk; exact ha
  unfold mkFn at hg
  split at hg
  · rename_i o os' hg'
    cases hg
    refine ⟨_, hg', fun F' S2 T v H2 g hA' ro => ?_⟩
    cases ro with
    | val rp _ =>
      cases rp
      refine ⟨rfl, q F' (tailS S2) (S2 0) (.ref x) H2 (go g (S2 0) (fun b hb => .inl ⟨0, hb⟩) (fun i b h0 h1 => by have := hA'.dis _ _ b h0 h1; omega) fun b hb => hA'.off 0 b hb) (tl hA') ?_⟩
      obtain ⟨w, hw, ro⟩ := hA'.cell 0 o (by rw [loc_at]; rfl)
      have : w = .ref x := by simpa using hw.symm
      subst this
      exact ro
  · rename_i e o os' hg'
    cases hg
    refine ⟨_, hg', fun F' S2 H2 cls d g hA' th => ?_⟩
    exact q F' (tailS S2) H2 cls d (go g noT (fun b h => h.elim) (fun i b h => h.elim) fun b h => h.elim) (tl hA') th
  · cases hg
structure MkOk (c : Cn) (n : Nat) (f : Addr) : Prop where
  ex : ∃ C, c.mg (c.nm n) = some (.ref C) ∧ Mk c.K C f
theorem v_make {n : Nat} {ms : List Bool} {g : Fn} {as : List EV} {j k : Nat} {f : Addr} {ps : List Str} {nm : Nat → Str} {x : Str} {p pos : Pos} {e : Expr} {es : List Expr} (hx : x = nm n) (M : MkOk ⟨X.K, X.mg, nm⟩ n f) (G : Callee X.prog X.w X.K X.mg X.base k f ps (true :: ms) nm g) (hr : Room j X.A) (hg : Gl X x) (tk : Takes X W)
    (ha : PA X (e :: es) (tVA ⟨X.K, X.mg, nm⟩ W (eArgs as))) (hk : k + 1 ≤ j := by decide) (hdb : (x == ("__debug__" : Str)) = false := by decide) (he : starEach (e :: es) X.env = (false, eval e X.env) :: starEach es X.env := by rfl) (hpl : (backTo pos (starEach es X.env)).any (·.1) = false := by rfl) :
    PE X (.Call (.Name x p) (e :: es) [] pos) (tV ⟨X.K, X.mg, nm⟩ W (eMake n ms g as)) := by
  obtain ⟨C, hC, M⟩ := M.ex
  obtain ⟨fd, G⟩ := G.ex
  refine PE_imp (pe_makeV (E := WE W) M G.ok (hr.mono hk) hg (by rw [hx]; exact hC) G.b (fun σ => passAt tk σ) ha hdb he hpl) fun σ H Q h => ?_
  obtain ⟨F, S, env, hh, res, e, q⟩ := call_args h
  refine ⟨F, S, env, hh, res, e, ?_⟩
  cases res with
  | ok rs env' => exact fun F' S' Ts vs H' g1 hh1 k1 t1 => make_sp hC (q F' S' Ts vs H' g1 hh1 k1 t1)
  | ex x env' => exact q
theorem v_make0 {n : Nat} {g : Fn} {j k : Nat} {f : Addr} {ps : List Str} {nm : Nat → Str} {x : Str} {p pos : Pos} (hx : x = nm n) (M : MkOk ⟨X.K, X.mg, nm⟩ n f) (G : Callee X.prog X.w X.K X.mg X.base k f ps [true] nm g) (hr : Room j X.A) (hg : Gl X x) (tk : Takes X W)
    (hk : k + 1 ≤ j := by decide) (hdb : (x == ("__debug__" : Str)) = false := by decide) :
    PE X (.Call (.Name x p) [] [] pos) (tV ⟨X.K, X.mg, nm⟩ W (eMake n [] g [])) := by
  obtain ⟨C, hC, M⟩ := M.ex
  obtain ⟨fd, G⟩ := G.ex
  refine PE_imp (pe_makeV0 (E := WE W) M G.ok (hr.mono hk) hg (by rw [hx]; exact hC) G.b (fun σ => passAt tk σ) hdb) fun σ H Q h => ?_
  exact make_sp hC (args_nil (call_args h))
structure MtOk (c : Cn) (cn m : Nat) (f : Addr) : Prop where
  one : OneN c.nm m
  cls : ∀ C, c.mg (c.nm cn) = some (.ref C) → Cls c.K C ∧ Meth c.K C (c.nm m) f
  ex : ∃ C, c.mg (c.nm cn) = some (.ref C)
theorem isIns_ok {cn m : Nat} {f : Addr} (M : MtOk c cn m f) {F : Hp} {S : Nat → Set1} {env : VEnv} {H : Hp} {r : R} {v : V} {T : Set1} (hh : Hold c F S env σ H) (is : IsR c F H σ r v T) (h : isInsR cn m r env = true) :
    ∃ a C dx fs, v = .ref a ∧ H a = some (.ins C dx fs) ∧ c.mg (c.nm cn) = some (.ref C) ∧ fs.lookup (c.nm m) = none := by
  unfold isInsR at h
  split at h
  · rename_i c1 ds e1
    rw [Bool.and_eq_true, decide_eq_true_eq] at h
    obtain ⟨rfl, h2⟩ := h
    obtain ⟨T1, ro⟩ := is.get hh e1
    cases ro with
    | val rp _ =>
      cases rp with
      | @ins a C dx _ fs _ hC hF hl hn hr =>
        refine ⟨a, C, dx, fs, rfl, hh.ex _ _ hF, hC, ?_⟩
        rcases nms_look M.one (nms_of hl hn) with ⟨_, q2, _⟩ | ⟨k, v, o, _, _, _, _, q5⟩
        · exact q2
        · rw [q5] at h2; cases h2
  · rename_i c1 ds e1
    rw [Bool.and_eq_true, decide_eq_true_eq] at h
    obtain ⟨rfl, h2⟩ := h
    obtain ⟨T1, ro⟩ := is.get hh e1
    cases ro with
    | @ins a C dx _ fs _ _ So hC hH hl hn hr dj bd hT =>
      refine ⟨a, C, dx, fs, rfl, hH, hC, ?_⟩
      rcases nms_look M.one (nms_of hl hn) with ⟨_, q2, _⟩ | ⟨k, v, o, _, _, _, _, q5⟩
      · exact q2
      · rw [q5] at h2; cases h2
  · cases h
theorem meth_ok {cn m : Nat} {ms : List Bool} {g : Fn} {as : List EV} {f : Addr} (M : MtOk c cn m f) (h : tV c W (eMeth cn m ms g fa as) σ H Q) :
    tV c W fa σ H (fun x H1 => (∃ a C dx fs, x = .ref a ∧ H1 a = some (.ins C dx fs) ∧ c.mg (c.nm cn) = some (.ref C) ∧ fs.lookup (c.nm m) = none) ∧ tVA c W (eArgs as) σ H1 fun vs H2 => spV c ms g (x :: vs) H2 Q (WE W σ)) := by
  obtain ⟨F, S, env, hh, res, e, q⟩ := h
  rcases bind_some e with ⟨r, e1, h1, e⟩ | ⟨x, e1, h1, rfl⟩
  · refine ⟨F, S, env, hh, _, h1, fun F1 S1 T1 v1 H1 g1 hh1 k1 is1 => ?_⟩
    have t1 : Temps c F1 S1 σ H1 [r] [v1] _ := Temps.one is1 g1.dT g1.oT
    split at e
    · rename_i hk
      refine ⟨isIns_ok M hh1 is1 hk, ?_⟩
      rcases bind_some e with ⟨rs, e2, h2, e⟩ | ⟨x, e2, h2, rfl⟩
      · refine ⟨F1, S1, e1, hh1, _, h2, fun F2 S2 Ts vs H2 g2 hh2 k2 t2 => ?_⟩
        obtain ⟨t1', d12⟩ := t1.go g2 t1.offU
        have g12 := g1.add (T' := fun x => un (catT [r].length (fun k x => k = 0 ∧ T1 x) Ts) x) g2 (fun x h => .inl h) (fun x ⟨k, hx⟩ => by
          unfold catT at hx
          split at hx
          · exact .inl hx.2
          · exact .inr ⟨_, hx⟩) (fun x hx => t1'.offF 0 x ⟨rfl, hx⟩) (fun i x hx => t1'.offS 0 i x ⟨rfl, hx⟩)
        refine call_ok hh2 (t1'.cat t2 fun i j x hi hj => d12 i x hi ⟨j, hj⟩) e ?_
        cases res with
        | ok r' env' => exact fun F3 S3 T v H3 g3 hh3 k3 is3 => q F3 S3 T v H3 (g12.trans g3 fun x h => h) hh3 (k1.trans (k2.trans k3)) is3
        | ex x env' => exact fun F3 S3 H3 cls d g3 hh3 k3 th => q F3 S3 H3 cls d (g12.trans g3 fun x h => h) hh3 (k1.trans (k2.trans k3)) th
      · exact ⟨F1, S1, e1, hh1, _, h2, EndX_go g1 k1 q⟩
    · cases e
  · exact ⟨F, S, env, hh, _, h1, q⟩
theorem v_meth {cn n : Nat} {ms : List Bool} {g : Fn} {as : List EV} {j k : Nat} {f : Addr} {ps : List Str} {nm : Nat → Str} {m : Str} {o e : Expr} {es : List Expr} {apos pos : Pos} (pl : Sem Bool) (hm : m = nm n) (M : MtOk ⟨X.K, X.mg, nm⟩ cn n f) (G : Callee X.prog X.w X.K X.mg X.base k f ps ms nm g) (hr : Room j X.A) (tk : Takes X W)
    (ho : PE X o (tV ⟨X.K, X.mg, nm⟩ W fa)) (ha : PA X (e :: es) (tVA ⟨X.K, X.mg, nm⟩ W (eArgs as))) (hk : k ≤ j := by decide)
    (hst : starEach (e :: es) X.env = (false, eval e X.env) :: starEach es X.env := by rfl) (hpl : (backTo pos (starEach es X.env)).any (·.1) = false := by rfl)
    (ht : eval (.Call (.Attribute o m apos) (e :: es) [] pos) X.env = (do
      let ov ← eval o X.env
      standAt apos.atName
      let (f, first) ← holding [ov] (getMethod ov m pl)
      callWith pos f first (backTo pos (starEach (e :: es) X.env)) (backToKw pos (keywordEach [] X.env))) := by rfl) :
    PE X (.Call (.Attribute o m apos) (e :: es) [] pos) (tV ⟨X.K, X.mg, nm⟩ W (eMeth cn n ms g fa as)) := by
  obtain ⟨C, hC⟩ := M.ex
  obtain ⟨h1, h2⟩ := M.cls C hC
  obtain ⟨fd, G⟩ := G.ex
  subst hm
  refine PE_imp (pe_methV (pl := pl) (E := WE W) ho h1 h2 G.ok (hr.mono hk) G.b (fun σ => passAt tk σ) ha hst hpl ht) fun σ H Q h => ?_
  refine tV_mono (meth_ok M h) fun x H1 ⟨⟨a, C', dx, fs, e1, e2, e3, e4⟩, h3⟩ => ?_
  have eC : C' = C := by rw [hC] at e3; cases e3; rfl
  subst eC
  exact ⟨a, dx, fs, e1, e2, e4, h3⟩
theorem v_meth0 {cn n : Nat} {ms : List Bool} {g : Fn} {j k : Nat} {f : Addr} {ps : List Str} {nm : Nat → Str} {m : Str} {o : Expr} {apos pos : Pos} (pl : Sem Bool) (hm : m = nm n) (M : MtOk ⟨X.K, X.mg, nm⟩ cn n f) (G : Callee X.prog X.w X.K X.mg X.base k f ps ms nm g) (hr : Room j X.A) (tk : Takes X W)
    (ho : PE X o (tV ⟨X.K, X.mg, nm⟩ W fa)) (hk : k ≤ j := by decide)
    (ht : eval (.Call (.Attribute o m apos) [] [] pos) X.env = (do
      let ov ← eval o X.env
      standAt apos.atName
      let (f, first) ← holding [ov] (getMethod ov m pl)
      callWith pos f first (backTo pos (starEach [] X.env)) (backToKw pos (keywordEach [] X.env))) := by rfl) :
    PE X (.Call (.Attribute o m apos) [] [] pos) (tV ⟨X.K, X.mg, nm⟩ W (eMeth cn n ms g fa [])) := by
  obtain ⟨C, hC⟩ := M.ex
  obtain ⟨h1, h2⟩ := M.cls C hC
  obtain ⟨fd, G⟩ := G.ex
  subst hm
  refine PE_imp (pe_methV0 (pl := pl) (E := WE W) ho h1 h2 G.ok (hr.mono hk) G.b (fun σ => passAt tk σ) ht) fun σ H Q h => ?_
  refine tV_mono (meth_ok M h) fun x H1 ⟨⟨a, C', dx, fs, e1, e2, e3, e4⟩, h3⟩ => ?_
  have eC : C' = C := by rw [hC] at e3; cases e3; rfl
  subst eC
  exact ⟨a, dx, fs, e1, e2, e4, args_nil h3⟩
end VS
namespace VS
open PySem PySem.Spec PyProof.Rows L2
theorem second_call {P : Program} {w : World} {K : PySem.W.Frag} {A : Around} {f : Addr} {name qual x : Str} {params : Arguments} {scope : Scope} {dV kV doc pm cdv ct oc : Value} {an od : Option Addr} {osl : Array (Option Value)} {N : List Str} {p1 p2 p3 p4 : Pos} {j : Nat}
    {s : Shared} {a : Addr} {u1 u2 : Value} {k : PyData}
    (lk : K.lookup f = some ⟨oc, od, .func (PySem.W.fnOf name qual params [.Return (some (.Subscript (.Name x p1) (.Constant (.int 1) j p2) p3)) p4] scope dV kV doc pm an cdv ct), osl⟩) (hcd : PySem.W.codeIn K cdv qual = true) (S : FnScope N [x] scope)
    (hl : scope.names.lookup x = some .local) (hx : (x == ("__debug__" : Str)) = false) (KX : K.In s.heap) (lim : s.heap.NoLimit) (hd : A.depth < recursionLimit)
    (hb : BindsTo s (PySem.W.fnOf name qual params [.Return (some (.Subscript (.Name x p1) (.Constant (.int 1) j p2) p3)) p4] scope dV kV doc pm an cdv ct) ⟨[.ref a], []⟩ [(x, .ref a)])
    (ht : IsTup s.heap a #[u1, u2]) (hr : Reads s.heap u2 k []) : wpAny (model P w) A (call (.ref f) [.ref a]) (PySem.W.KeyPure k s) (fun _ _ => False) s := by
  refine wpAny_call ?_
  refine codeAny_call_function hd (KX _ _ lk) rfl S.co S.gen rfl (PySem.W.codeRec_of KX hcd) (hb _ _ _ _ ?_)
  refine wpAny_newFunctionEnv_cells S.kind (fun y hy => by
    rcases List.mem_singleton.mp hy with rfl
    exact .inl hl) fun env he s1 x1 => ?_
  subst he
  refine ⟨lim.keeps x1.toInCall.keep, codeAny_func ?_⟩
  obtain ⟨h', tk, rfl, kp⟩ := x1.done
  have ht' : IsTup h' a #[u1, u2] := by
    obtain ⟨o, h1, h2, n, h3⟩ := ht
    exact ⟨o, kp _ _ h1, h2, n, h3⟩
  have hn := line63
  refine wpAny_execs_cons (wpAny_Return_some (wpAny_Subscript_Constant_late (wpAny_Name (ldLC x1 S.kind hl ?hm (wpAny_Constant_int ⟨_, _, slot_tuple_getitem.lookup, ht'.typeIs, getItem_tuple (j := 1) (x := u2) ht' (by decide) (by decide) rfl rfl ?fin⟩)) hx)))
  case hm =>
    show bindL (envOfC qual scope s.heap.objs.size f cdv).kindOf [(x, Value.ref a)] (fun _ => none) x = some (.ref a)
    unfold bindL bindL
    have hk : (envOfC qual scope s.heap.objs.size f cdv).kindOf x = some .local := hl
    rw [if_pos hk]
    show (if x = x then some (Value.ref a) else none) = _
    rw [if_pos rfl]
  case fin => exact ⟨h', _, rfl, kp, PyProof.Rows.Reads.keeps kp hr⟩
end VS
namespace VS
open PySem PySem.Spec PyProof.Rows L2
def KeyDef (P : Program) (w : World) (K : PySem.W.Frag) (f : Addr) : Prop := ∀ (A : Around) (s : Shared) (a : Addr) (u1 u2 : Value) (k : PyData), K.In s.heap → s.heap.NoLimit → A.depth < recursionLimit → IsTup s.heap a #[u1, u2] → Reads s.heap u2 k [] →
  wpAny (model P w) A (call (.ref f) [.ref a]) (PySem.W.KeyPure k s) (fun _ _ => False) s
theorem keyDef_of {P : Program} {w : World} {K : PySem.W.Frag} {x qual y : Str} {params : Arguments} {body : List Stmt} {scope : Scope} {f : Addr} {fd : FuncData} {N : List Str} {p1 p2 p3 p4 : Pos} {j : Nat} (F : FunD K x qual params body scope [] [] f fd) (hbody : body = [.Return (some (.Subscript (.Name y p1) (.Constant (.int 1) j p2) p3)) p4]) (S : FnScope N [y] scope)
    (hl : scope.names.lookup y = some .local) (hx : (y == ("__debug__" : Str)) = false)
    (hbd : ∀ (kV doc pm : Value) (an : Option Addr) (cdv ct : Value) (us : List Value), us.length = [y].length → bindArgs (PySem.W.fnOf x qual params body scope .none kV doc pm an cdv ct) ⟨us, []⟩ = pure ([y].zip us)) : KeyDef P w K f := by
  subst hbody
  intro A s a u1 u2 k KX lim hd ht hr
  have hb := F.bindsA hbd s [.ref a] rfl
  obtain ⟨oc, od, dV, kV, doc, pm, an, cdv, ct, osl, rfl, lk, hcd, _, _⟩ := F.ex
  exact second_call lk hcd S hl hx KX lim hd hb ht hr
def wordLe (p q : V × List Int) : Bool := decide (p.2 ≤ q.2)
def rSortSnd (K : PySem.W.Frag) (f : Addr) : List V → List V → Hp → VK → Prop := fun vs zs H Q => ∃ (a : Addr) (xs : List V) (ds : List (List Int)), vs = [V.ref a] ∧ zs = [V.ref f] ∧ SqL K H a xs ∧ xs.length = ds.length ∧
  (∀ (j : Nat) x d, xs[j]? = some x → ds[j]? = some d → ∃ t y b, x = V.ref t ∧ SqT K H t [y, V.ref b] ∧ SqT K H b (d.map V.int) ∧ d ≠ []) ∧ ∀ p, H p = none → Q (.ref p) (upd H p (.lst (((xs.zip ds).mergeSort wordLe).map (·.1))))
theorem each_of_get {α β : Type} {R : α → β → Prop} : ∀ {as : List α} {bs : List β}, as.length = bs.length → (∀ (k : Nat) a b, as[k]? = some a → bs[k]? = some b → R a b) → PySem.W.EachIs R as bs
  | [], [], _, _ => .nil
  | [], _ :: _, hl, _ => by simp at hl
  | _ :: _, [], hl, _ => by simp at hl
  | a :: as, b :: bs, hl, h => .cons (h 0 a b rfl rfl) (each_of_get (by simpa using hl) fun k a b ha hb => h (k + 1) a b (by simpa using ha) (by simpa using hb))
theorem reads_tup {X : Cx} {pins : List (Addr × Obj)} {s : Shared} {σ : L2.St} {H : Hp} (I : Inv X pins σ H s) {b : Addr} {d : List Int} (h : SqT X.K H b (d.map V.int)) : Reads s.heap (.ref b) (.tuple (d.map .int)) [] := by
  obtain ⟨its, r, ⟨o, h1, h2, n, h3⟩, _⟩ := I.tuple h
  refine .tuple h1 h2 h3 ?_
  have : ∀ {d : List Int} {us : List Value}, Vals (d.map V.int) us → ReadsAll s.heap us (d.map .int) [] := by
    intro d
    induction d with
    | nil => intro us r; cases r; exact .nil
    | cons n d ih =>
      intro us r
      cases r with
      | cons r1 r2 =>
        obtain ⟨t, rfl⟩ := r1
        exact .cons (as := []) (bs := []) (.int n t) (ih r2)
  simpa using this r
theorem reads_ints {h : Heap} : ∀ {d : List Int} {us : List Value}, Vals (d.map V.int) us → ReadsAll h us (d.map .int) []
  | [], _, r => by cases r; exact .nil
  | n :: d, _, r => by
    cases r with
    | cons r1 r2 =>
      obtain ⟨t, rfl⟩ := r1
      exact .cons (as := []) (bs := []) (.int n t) (reads_ints r2)
theorem keyLe_words {β : Type} (x : β → List Int) : PySem.W.dataLe false (fun b => .tuple ((x b).map .int)) = fun p q => decide (x p ≤ x q) := by
  have := PySem.W.dataLe_rows x
  rw [← this]
  funext p q
  rfl
theorem cr_sortSnd {X : Cx} {f : Addr} (KD : KeyDef X.prog X.w X.K f) (hu : X.A.units + 66 < cLine) (hd : X.A.depth < recursionLimit) : CallRK X (.builtin "sorted") [Str.ofString "key"] (rSortSnd X.K f) := by
  intro pins s σ H vs zs us ws Q I r rz h
  obtain ⟨a, xs, ds, rfl, rfl, hs, hl, hx, q⟩ := h
  obtain rfl := Vals.ref1 r
  obtain ⟨w1, rfl, e1⟩ := vals1 rz
  obtain rfl : w1 = Value.ref f := e1
  obtain ⟨its, rv, pl, hz⟩ := I.list hs
  have hl2 : xs.length = its.length := rv.length
  have hlen : its.length = (xs.zip ds).length := by rw [List.length_zip]; omega
  have e : PySem.W.EachIs (fun u (p : V × List Int) => RelV p.1 u) its (xs.zip ds) := each_of_get hlen fun k u p hu hp => by
    obtain ⟨h1, h2⟩ := List.getElem?_zip_eq_some.mp hp
    obtain ⟨u', e1, e2⟩ := rv.get h1
    rw [hu] at e1; cases e1
    exact e2
  have mem : ∀ p ∈ xs.zip ds, ∃ t y b, p.1 = V.ref t ∧ SqT X.K H t [y, V.ref b] ∧ SqT X.K H b (p.2.map V.int) ∧ p.2 ≠ [] := fun p hp => by
    obtain ⟨j, hj⟩ := List.getElem?_of_mem hp
    obtain ⟨h1, h2⟩ := List.getElem?_zip_eq_some.mp hj
    exact hx j p.1 p.2 h1 h2
  refine PySem.W.sorted_key_data (b := false) (s := s) (A := X.A) (R := fun u (p : V × List Int) => RelV p.1 u) (fun p : V × List Int => .tuple (p.2.map .int)) (pl.isList) e (PySem.W.AllAlike.of fun p p' => by simp only [PySem.W.alike]; exact PySem.W.alike_ints _ _) (.inl fun d hd => ?_) (by rw [← hlen, ← hl2]; exact hz) (fun p hp => ?_) (PyProof.Rows.ksk_s1 _ _) (fun _ => PyProof.Rows.ksk_l1 _ _) (fun _ => PyProof.Rows.ksk_t1 _ _)
    (fun u p hR hp h tk kp => ?_) fun out c h' tk kp fr hD ol eo => ?_
  · obtain ⟨p, hp, rfl⟩ := List.mem_map.mp hd
    obtain ⟨t, y, b, _, _, _, hne⟩ := mem p hp
    obtain ⟨i, r, hir⟩ := List.exists_cons_of_ne_nil hne
    rw [hir]
    exact ⟨_, _, rfl⟩
  · have hd : (PyData.tuple (p.2.map .int)).depth ≤ 1 := by
      show PyData.depth _ ≤ 1
      have := PySem.W.depth_ints p.2
      simp only [PyData.depth]
      omega
    omega
  · obtain ⟨t, y, b, e1, e2, e3, _⟩ := mem p hp
    rw [e1] at hR
    obtain rfl : u = Value.ref t := hR
    obtain ⟨its2, r2, ⟨o, h1, h2, n, h3⟩, _⟩ := I.tuple e2
    obtain ⟨u1, u2, rfl, _, ru2⟩ := vals2 r2
    obtain rfl : u2 = Value.ref b := ru2
    obtain ⟨its3, r3, ⟨o3, g1, g2, n3, g3⟩, _⟩ := I.tuple e3
    have KX : X.K.In h := I.kIn.keeps kp
    have lim : h.NoLimit := I.nolimit.keeps kp
    exact KD X.A.in1.in1 { s with heap := h, toks := tk } t u1 (.ref b) _ KX lim hd ⟨o, kp _ _ h1, h2, n, h3⟩ (.tuple (kp _ _ g1) g2 g3 (by simpa using reads_ints r3))
  · rw [keyLe_words (fun p : V × List Int => p.2)] at eo
    have hn : H (s.heap.objs.size + 1) = none := I.hok.fresh (Nat.le_succ _)
    have hle : s.heap.objs.size ≤ s.heap.objs.size + 1 := Nat.le_succ _
    have rv2 : Vals (((xs.zip ds).mergeSort wordLe).map (·.1)) out := by
      have : ∀ {ps : List (V × List Int)} {us : List Value}, PySem.W.EachIs (fun u (p : V × List Int) => RelV p.1 u) us ps → Vals (ps.map (·.1)) us := by
        intro ps us e
        induction e with
        | nil => exact .nil
        | cons h _ ih => exact .cons h ih
      exact this eo
    have hsz : (((xs.zip ds).mergeSort wordLe).map (·.1)).length ≤ sizeLine := by
      rw [List.length_map, List.length_mergeSort, ← hlen, ← hl2]; exact hz
    exact ⟨.ref (s.heap.objs.size + 1), upd H (s.heap.objs.size + 1) (.lst (((xs.zip ds).mergeSort wordLe).map (·.1))), I.laid (t' := tk) kp hle ⟨hsz, out, c, rv2, hD⟩, rfl, q _ hn⟩
end VS
namespace VS
open PySem L2
variable {c : Cn} {W : WX} {F F' F1 F2 H H' H1 H2 : Hp} {S S' S1 S2 : Nat → Set1} {T T' T1 T2 : Set1} {σ σ' σ1 : L2.St} {r : R} {v : V} {env env' env1 : VEnv} {Q : VK} {fa fb fc : EV} {qa qb : Rd} {X : Cx} {tg e : Expr}
theorem rep_ints {vs : List V} : ∀ {d : List Int}, vs.length = d.length → (∀ (k : Nat) v x, vs[k]? = some v → (d.map D.int)[k]? = some x → Rep c H v x) → vs = d.map V.int := by
  intro d hl hr
  refine List.ext_getElem? fun k => ?_
  rw [List.getElem?_map]
  by_cases hk : k < d.length
  · obtain ⟨v, i, hv, hi⟩ := get_of_lt hl hk
    rw [hv, hi]
    have := hr k v (.int i) hv (by rw [List.getElem?_map, hi]; rfl)
    cases this
    rfl
  · rw [List.getElem?_eq_none (by omega), List.getElem?_eq_none (by omega)]; rfl
theorem snd_rep {d : D} {w : List Int} (hr : Rep c H v d) (h : sndW d = some w) : ∃ t y b, v = .ref t ∧ SqT c.K H t [y, .ref b] ∧ SqT c.K H b (w.map V.int) := by
  unfold sndW at h
  split at h
  · rename_i d0 ds
    have := allInt_spec h
    subst this
    cases hr with
    | @tup t vs _ ht hl hr =>
      match vs, hl with
      | [y, z], _ =>
        have h2 := hr 1 z _ rfl rfl
        cases h2 with
        | @tup b us _ hb hl2 hr2 =>
          have e := rep_ints (by simpa using hl2) hr2
          subst e
          exact ⟨t, y, b, rfl, .inl (.inl ht), .inl (.inl hb)⟩
  · cases h
theorem zip_sort {vs : List V} {ds : List D} {ws : List (List Int)} (h1 : vs.length = ds.length) (h2 : ws.length = ds.length) (hr : ∀ (k : Nat) v d, vs[k]? = some v → ds[k]? = some d → Rep c F v d) :
    (((vs.zip ws).mergeSort wordLe).map (·.1)).length = (((ds.zip ws).mergeSort wordLeD).map (·.1)).length ∧ ∀ (k : Nat) v d, (((vs.zip ws).mergeSort wordLe).map (·.1))[k]? = some v → (((ds.zip ws).mergeSort wordLeD).map (·.1))[k]? = some d → Rep c F v d := by
  have z : PySem.W.EachIs (fun (p : V × List Int) (q : D × List Int) => Rep c F p.1 q.1 ∧ p.2 = q.2) (vs.zip ws) (ds.zip ws) := each_of_get (by rw [List.length_zip, List.length_zip, h1]) fun k p q hp hq => by
    obtain ⟨a1, a2⟩ := List.getElem?_zip_eq_some.mp hp
    obtain ⟨b1, b2⟩ := List.getElem?_zip_eq_some.mp hq
    rw [a2] at b2
    exact ⟨hr k _ _ a1 b1, Option.some.inj b2⟩
  have key : ∀ {ps : List (V × List Int)} {qs : List (D × List Int)}, PySem.W.EachIs (fun p q => Rep c F p.1 q.1 ∧ p.2 = q.2) ps qs → PySem.W.EachIs (fun p q => Rep c F p.1 q.1 ∧ p.2 = q.2) (ps.mergeSort wordLe) (qs.mergeSort wordLeD) := by
    intro ps qs h
    have hl := h.length
    have e1 : ps = (ps.zip qs).map (·.1) := by rw [← List.unzip_fst, List.unzip_zip hl]
    have e2 : qs = (ps.zip qs).map (·.2) := by rw [← List.unzip_snd, List.unzip_zip hl]
    have hm : ∀ x ∈ ps.zip qs, Rep c F x.1.1 x.2.1 ∧ x.1.2 = x.2.2 := fun x hx => h.zip x hx
    generalize ps.zip qs = zs at *
    subst e1; subst e2
    have s1 : (zs.map (·.1)).mergeSort wordLe = (zs.mergeSort fun a b => wordLe a.1 b.1).map (·.1) := by
      rw [List.map_mergeSort (s := wordLe)]
      intro a _ b _; rfl
    have s2 : (zs.map (·.2)).mergeSort wordLeD = (zs.mergeSort fun a b => wordLe a.1 b.1).map (·.2) := by
      rw [List.map_mergeSort (s := wordLeD)]
      intro a ha b hb
      show decide (a.1.2 ≤ b.1.2) = decide (a.2.2 ≤ b.2.2)
      rw [(hm a ha).2, (hm b hb).2]
    rw [s1, s2]
    refine each_of_get (by simp) fun k p q hp hq => ?_
    rw [List.getElem?_map] at hp hq
    obtain ⟨x, hx, rfl⟩ := Option.map_eq_some_iff.mp hp
    rw [hx] at hq
    cases hq
    exact hm x (List.mem_mergeSort.mp (List.mem_of_getElem? hx))
  have z2 := key z
  refine ⟨by simp only [List.length_map]; exact z2.length, fun k v d hv hd => ?_⟩
  rw [List.getElem?_map] at hv hd
  obtain ⟨p, hp, rfl⟩ := Option.map_eq_some_iff.mp hv
  obtain ⟨q, hq, rfl⟩ := Option.map_eq_some_iff.mp hd
  have := z2.zip (p, q) (List.mem_of_getElem? (i := k) (by rw [List.getElem?_zip_eq_some]; exact ⟨hp, hq⟩))
  exact this.1
theorem op_sortSnd {f : Addr} : Op c (fun vs H Q => rSortSnd c.K f vs [.ref f] H Q) opSortSnd := by
  intro F S env σ H rs vs Ts r' env' Q hh t hg q
  unfold opSortSnd at hg
  split at hg
  · rename_i r1 en
    obtain ⟨v1, rfl, i1⟩ := one t
    split at hg
    · rename_i ds e1
      split at hg
      · rename_i ws hw
        split at hg
        · rename_i hne
          cases hg
          obtain ⟨a, us, rfl, ha, la, ra⟩ := items_lst hh i1 e1
          obtain ⟨l1, g1⟩ := mapM_get hw
          obtain ⟨l2, g2⟩ := zip_sort la l1 ra
          refine ⟨a, us, ws, rfl, rfl, .inl (.inl ha), by rw [la, l1], fun j x w hx hw' => ?_, out_lst hh l2 g2 q⟩
          have hj : j < ds.length := by rw [← la]; exact (List.getElem?_eq_some_iff.mp hx).1
          have hd : ds[j]? = some ds[j] := List.getElem?_eq_getElem hj
          obtain ⟨t, y, b, h1, h2, h3⟩ := snd_rep ((ra j x ds[j] hx hd).up hh.ex) (g1 j ds[j] w hd hw')
          refine ⟨t, y, b, h1, h2, h3, fun e => ?_⟩
          have := List.all_eq_true.mp hne w (List.mem_of_getElem? hw')
          rw [e] at this
          cases this
        · cases hg
      · cases hg
    · cases hg
  · cases hg
theorem v_sortSnd {f : Addr} {y : Str} {e : Expr} {p1 p2 p3 pos : Pos} (hK : c.K = X.K) (KD : KeyDef X.prog X.w X.K f) (hu : X.A.units + 66 < cLine) (hd : X.A.depth < recursionLimit) (hg : Gl X "sorted") (hm : X.mg "sorted" = none) (hgy : Gl X y) (hmy : X.mg y = some (.ref f)) (ha : PE X e (tV c W fa))
    (hdy : (y == ("__debug__" : Str)) = false := by decide) (hst : starEach [e] X.env = (false, eval e X.env) :: starEach [] X.env := by rfl)
    (he : backTo pos (starEach [e] X.env) = (false, eval e X.env) :: backTo pos (starEach [] X.env) := by rfl) (hpl : (backTo pos (starEach [e] X.env)).any (·.1) = false := by rfl)
    (hall : (backToKw pos (keywordEach [⟨some "key", .Name y p2, p3⟩] X.env)).all (·.1.isSome) = true := by rfl) (hnone : (backToKw pos (keywordEach [⟨some "key", .Name y p2, p3⟩] X.env)).any (·.1.isNone) = false := by rfl) (hks : (backToKw pos (keywordEach [⟨some "key", .Name y p2, p3⟩] X.env)).filterMap (·.1) = [Str.ofString "key"] := by rfl) :
    PE X (.Call (.Name "sorted" p1) [e] [⟨some "key", .Name y p2, p3⟩] pos) (tV c W (eOp opSortSnd (eArgs [fa]))) := by
  have h := pe_callBK (x := "sorted") (p := p1) (pos := pos) (cr_sortSnd (X := X) KD hu hd) hg hm (by decide +kernel) (a1 (W := W) ha hst) (pk_cons (pe_glob (v := .ref f) hgy hmy rfl hdy) pk_nil) (by decide) (by decide) he hpl hall hnone hks
  exact PE_imp h fun σ H Q h => by
    have := op_args (op_sortSnd (f := f)) h
    rw [← hK]
    exact this
end VS
namespace VS
open PySem L2
variable {c : Cn} {W : WX} {F F' F1 F2 H H' H1 H2 : Hp} {S S' S1 S2 : Nat → Set1} {T T' T1 T2 : Set1} {σ σ' σ1 : L2.St} {r : R} {v : V} {env env' env1 : VEnv} {Q : VK} {fa fb fc : EV} {qa qb : Rd} {X : Cx} {tg e : Expr}
def IsDk (u : HO) : Prop := (∃ kvs, u = .dK kvs) ∨ ∃ kvs, u = .dT kvs
theorem isDk_mut {u : HO} (h : IsDk u) : Mut (some u) := by
  rcases h with ⟨k, rfl⟩ | ⟨k, rfl⟩ <;> exact True.intro
theorem upd_same' {F : Hp} {d : Addr} {u : HO} {x : Addr} {w : HO} (h : F x = some w) (hx : x ≠ d) : upd F d u x = some w := by rw [upd_ne hx]; exact h
theorem Rep.lock {d : Addr} {u : HO} {od : Obj} {x : D} (r : Rep c F v x) (hd : F d = some u) (hu : IsDk u) : Rep c (upd F d (.frz od u)) v x := by
  have ne : ∀ a w, F a = some w → ¬ IsDk w → a ≠ d := fun a w h hn e => by subst e; rw [hd] at h; cases h; exact hn hu
  induction r with
  | non => exact .non
  | bl b => exact .bl b
  | int i => exact .int i
  | str s => exact .str s
  | tup h l _ ih => exact .tup (upd_same' h (ne _ _ h (by rintro (⟨k, e⟩ | ⟨k, e⟩) <;> cases e))) l ih
  | lst h l _ ih => exact .lst (upd_same' h (ne _ _ h (by rintro (⟨k, e⟩ | ⟨k, e⟩) <;> cases e))) l ih
  | scr h =>
    refine .scr ?_
    rcases h with (h | ⟨o, h⟩) | h
    · exact .inl (.inl (upd_same' h (ne _ _ h (by rintro (⟨k, e⟩ | ⟨k, e⟩) <;> cases e))))
    · exact .inl (.inr ⟨o, upd_same' h (ne _ _ h (by rintro (⟨k, e⟩ | ⟨k, e⟩) <;> cases e))⟩)
    · exact .inr h
  | @dK a kvs ks h l hk _ ih =>
    refine .dK ?_ l hk ih
    by_cases e : a = d
    · subst e
      rcases h with h | ⟨o, h⟩
      · rw [hd] at h; cases h; exact .inr ⟨od, upd_same⟩
      · rw [hd] at h; cases h; rcases hu with ⟨k, e⟩ | ⟨k, e⟩ <;> cases e
    · rcases h with h | ⟨o, h⟩
      · exact .inl (upd_same' h e)
      · exact .inr ⟨o, upd_same' h e⟩
  | @dT a kvs ks h l hk _ ih =>
    refine .dT ?_ l hk ih
    by_cases e : a = d
    · subst e
      rcases h with h | ⟨o, h⟩
      · rw [hd] at h; cases h; exact .inr ⟨od, upd_same⟩
      · rw [hd] at h; cases h; rcases hu with ⟨k, e⟩ | ⟨k, e⟩ <;> cases e
    · rcases h with h | ⟨o, h⟩
      · exact .inl (upd_same' h e)
      · exact .inr ⟨o, upd_same' h e⟩
  | ins hc h l hk _ ih => exact .ins hc (upd_same' h (ne _ _ h (by rintro (⟨k, e⟩ | ⟨k, e⟩) <;> cases e))) l hk ih
theorem Rep.unlock {d : Addr} {u : HO} {od : Obj} {x : D} (r : Rep c F v x) (hd : F d = some (.frz od u)) (hu : IsDk u) : Rep c (upd F d u) v x := by
  have ne : ∀ a w, F a = some w → (∀ o u, w ≠ .frz o u) → a ≠ d := fun a w h hn e => by subst e; rw [hd] at h; cases h; exact hn _ _ rfl
  induction r with
  | non => exact .non
  | bl b => exact .bl b
  | int i => exact .int i
  | str s => exact .str s
  | tup h l _ ih => exact .tup (upd_same' h (ne _ _ h fun _ _ e => by cases e)) l ih
  | lst h l _ ih => exact .lst (upd_same' h (ne _ _ h fun _ _ e => by cases e)) l ih
  | @scr a ns h =>
    refine .scr ?_
    rcases h with (h | ⟨o, h⟩) | h
    · exact .inl (.inl (upd_same' h (ne _ _ h fun _ _ e => by cases e)))
    · have e : a ≠ d := fun e => by
        subst e
        rw [hd] at h
        cases h
        rcases hu with ⟨k, e⟩ | ⟨k, e⟩ <;> cases e
      exact .inl (.inr ⟨o, upd_same' h e⟩)
    · exact .inr h
  | @dK a kvs ks h l hk _ ih =>
    refine .dK ?_ l hk ih
    by_cases e : a = d
    · subst e
      rcases h with h | ⟨o, h⟩
      · rw [hd] at h; cases h
      · rw [hd] at h; cases h; exact .inl upd_same
    · rcases h with h | ⟨o, h⟩
      · exact .inl (upd_same' h e)
      · exact .inr ⟨o, upd_same' h e⟩
  | @dT a kvs ks h l hk _ ih =>
    refine .dT ?_ l hk ih
    by_cases e : a = d
    · subst e
      rcases h with h | ⟨o, h⟩
      · rw [hd] at h; cases h
      · rw [hd] at h; cases h; exact .inl upd_same
    · rcases h with h | ⟨o, h⟩
      · exact .inl (upd_same' h e)
      · exact .inr ⟨o, upd_same' h e⟩
  | ins hc h l hk _ ih => exact .ins hc (upd_same' h (ne _ _ h fun _ _ e => by cases e)) l hk ih
theorem RO.shift {o : O} (r : RO c F H v o T) (hr : ∀ v x, Rep c F v x → Rep c F' v x) (ht : ∀ a xs, F a = some (.tup xs) → F' a = some (.tup xs)) (k : ∀ x u, T x → H x = some u → H' x = some u) : RO c F' H' v o T := by
  induction r with
  | val h n => exact .val (hr _ _ h) n
  | lst S h l _ dj bd hT ih => exact .lst S (k _ _ ((hT _).mpr (.inl rfl)) h) l (fun i v o hv ho => ih i v o hv ho fun x u hx => k x u ((hT x).mpr (.inr ⟨i, hx⟩))) dj bd hT
  | tup S h l _ dj bd hT ih => exact .tup S (ht _ _ h) l (fun i v o hv ho => ih i v o hv ho fun x u hx => k x u ((hT x).mpr ⟨i, hx⟩)) dj bd hT
  | dK S h l hk _ dj bd hT ih => exact .dK S (k _ _ ((hT _).mpr (.inl rfl)) h) l hk (fun i v o hv ho => ih i v o hv ho fun x u hx => k x u ((hT x).mpr (.inr ⟨i, hx⟩))) dj bd hT
  | dT S h l hk _ dj bd hT ih => exact .dT S (k _ _ ((hT _).mpr (.inl rfl)) h) l hk (fun i v o hv ho => ih i v o hv ho fun x u hx => k x u ((hT x).mpr (.inr ⟨i, hx⟩))) dj bd hT
  | ins S hc h l hk _ dj bd hT ih => exact .ins S hc (k _ _ ((hT _).mpr (.inl rfl)) h) l hk (fun i v o hv ho => ih i v o hv ho fun x u hx => k x u ((hT x).mpr (.inr ⟨i, hx⟩))) dj bd hT
theorem Hold.lock {d : Addr} {u : HO} {od : Obj} (hh : Hold c F S env σ H) (hd : F d = some u) (hu : IsDk u) : Hold c (upd F d (.frz od u)) S env σ (upd H d (.frz od u)) := by
  have nd : ∀ i x, S i x → x ≠ d := fun i x hx e => by subst e; rw [hh.off i x hx] at hd; cases hd
  refine ⟨fun a w h => ?_, hh.len, fun i o ho => ?_, hh.dis, fun i x hx => by rw [upd_ne (nd i x hx)]; exact hh.off i x hx, hh.dead⟩
  · by_cases e : a = d
    · subst e; rw [upd_same] at h ⊢; exact h
    · rw [upd_ne e] at h ⊢; exact hh.ex a w h
  · obtain ⟨w, hw, ro⟩ := hh.cell i o ho
    exact ⟨w, hw, ro.shift (fun v x r => r.lock hd hu) (fun a xs h => upd_same' h fun e => by subst e; rw [hd] at h; cases h; rcases hu with ⟨k, e⟩ | ⟨k, e⟩ <;> cases e) fun x u hx hux => upd_same' hux (nd i x hx)⟩
theorem Hold.unlock {d : Addr} {u : HO} {od : Obj} (hh : Hold c F S env σ H) (hd : F d = some (.frz od u)) (hu : IsDk u) : Hold c (upd F d u) S env σ (upd H d u) := by
  have nd : ∀ i x, S i x → x ≠ d := fun i x hx e => by subst e; rw [hh.off i x hx] at hd; cases hd
  refine ⟨fun a w h => ?_, hh.len, fun i o ho => ?_, hh.dis, fun i x hx => by rw [upd_ne (nd i x hx)]; exact hh.off i x hx, hh.dead⟩
  · by_cases e : a = d
    · subst e; rw [upd_same] at h ⊢; exact h
    · rw [upd_ne e] at h ⊢; exact hh.ex a w h
  · obtain ⟨w, hw, ro⟩ := hh.cell i o ho
    exact ⟨w, hw, ro.shift (fun v x r => r.unlock hd hu) (fun a xs h => upd_same' h fun e => by subst e; rw [hd] at h; cases h) fun x u hx hux => upd_same' hux (nd i x hx)⟩
theorem Go.unlock {d : Addr} {u : HO} {od : Obj} (g : Go (upd F d (.frz od u)) (un S) (upd H d (.frz od u)) F2 S2 T H2) (hd : F d = some u) (hdH : H d = some u) : Go F (un S) H (upd F2 d u) S2 T (upd H2 d u) := by
  have f2 : F2 d = some (.frz od u) := g.exF d _ upd_same
  have bk : ∀ x, (un S x ∨ upd H d (.frz od u) x = Option.none) → un S x ∨ H x = Option.none := fun x h => h.imp id fun h => by
    by_cases e : x = d
    · subst e; rw [upd_same] at h; cases h
    · rw [upd_ne e] at h; exact h
  refine ⟨fun a w h => ?_, fun x w hw hn => ?_, fun i x hx => bk x (g.nS i x hx), fun x hx => bk x (g.nT x hx), fun x hx => ?_, g.dT, fun x hx => ?_⟩
  · by_cases e : a = d
    · subst e; rw [hd] at h; cases h; exact upd_same
    · exact upd_same' (g.exF a w (upd_same' h e)) e
  · by_cases e : x = d
    · subst e; rw [hdH] at hw; cases hw; exact upd_same
    · exact upd_same' (g.fr x w (upd_same' hw e) hn) e
  · by_cases e : x = d
    · subst e; exact .inl (by rw [hd]; exact fun h => by cases h)
    · rw [upd_ne e] at hx
      rcases g.nF x hx with h | h | h | ⟨xs, h⟩
      · rw [upd_ne e] at h; exact .inl h
      · exact .inr (.inl h)
      · rw [upd_ne e] at h; exact .inr (.inr (.inl h))
      · rw [upd_ne e] at h; exact .inr (.inr (.inr ⟨xs, h⟩))
  · have e : x ≠ d := fun e => by subst e; have := g.oT x hx; rw [f2] at this; cases this
    rw [upd_ne e]; exact g.oT x hx
theorem wk_keys {d : Addr} {o : Obj} {kvs : List (Key × V)} {ks : List (D × D)} (hl : kvs.length = ks.length) (hkk : ∀ (j : Nat) kv kd, kvs[j]? = some kv → ks[j]? = some kd → kd.1 = keyD kv.1) : Wk c (Itk d o kvs) (ks.map (·.1)) (fun F => F d = some (.frz o (.dK kvs))) := by
  refine ⟨fun F F' p e => e _ _ p, fun i F H p e hi => ⟨e _ _ p, by rw [List.length_map] at hi; omega⟩, fun F H p e => ⟨e _ _ p, by rw [List.length_map]; omega⟩, fun i F H x H' dd p e y hd => ?_⟩
  obtain ⟨rfl, k, v, hkv, rfl⟩ := y
  rw [List.getElem?_map] at hd
  obtain ⟨kd, hkd, rfl⟩ := Option.map_eq_some_iff.mp hd
  have := hkk i _ kd hkv hkd
  rw [this]
  refine yl_same e ?_
  cases k with
  | inl i => exact .int i
  | inr s =>
    have h : Rep c F (SV s.cps.toList) (.str s.cps.toList) := .str _
    simpa [SV, kV, keyD] using h
theorem rep_key (F : Hp) (k : Key) : Rep c F (kV k) (keyD k) := by
  cases k with
  | inl i => exact .int i
  | inr s =>
    have h : Rep c F (SV s.cps.toList) (.str s.cps.toList) := .str _
    simpa [SV, kV, keyD] using h
theorem wk_keysT {d : Addr} {o : Obj} {kvs : List (List Key × V)} {ks : List (D × D)} (hl : kvs.length = ks.length) (hkk : ∀ (j : Nat) kv kd, kvs[j]? = some kv → ks[j]? = some kd → kd.1 = .tup (kv.1.map keyD)) : Wk c (Itkt d o kvs) (ks.map (·.1)) (fun F => F d = some (.frz o (.dT kvs))) := by
  refine ⟨fun F F' p e => e _ _ p, fun i F H p e hi => ⟨e _ _ p, by rw [List.length_map] at hi; omega⟩, fun F H p e => ⟨e _ _ p, by rw [List.length_map]; omega⟩, fun i F H x H' dd p e y hd => ?_⟩
  obtain ⟨rfl, k, v, q, hkv, rfl, hq⟩ := y
  rw [List.getElem?_map] at hd
  obtain ⟨kd, hkd, rfl⟩ := Option.map_eq_some_iff.mp hd
  have := hkk i _ kd hkv hkd
  rw [this]
  obtain ⟨F', hF1, hF2⟩ := cut_region H' F (fun x => x = q)
  refine ⟨F', fun a u h => ?_, ?_, Same.rfl', fun a u h => ?_, fun a h => ?_⟩
  · by_cases ea : a = q
    · subst ea; rw [hF1 a rfl]; exact e _ _ h
    · rw [hF2 a ea]; exact h
  · refine .tup (by rw [hF1 q rfl]; exact hq) (by simp) fun j v' d' hv hd' => ?_
    rw [List.getElem?_map] at hv hd'
    obtain ⟨k1, h1, rfl⟩ := Option.map_eq_some_iff.mp hv
    rw [h1] at hd'
    cases hd'
    exact rep_key _ _
  · by_cases ea : a = q
    · subst ea; rw [hF1 a rfl] at h; exact h
    · rw [hF2 a ea] at h; exact e _ _ h
  · by_cases ea : a = q
    · subst ea; exact .inr (.inr ⟨_, hq⟩)
    · rw [hF2 a ea] at h; exact .inl h
theorem keys_hI {cn n i : Nat} {K : It → Hp → Prop} (h : AtOk c cn n) (hh : Hold c F S env σ H) {a C dx d : Addr} {fs : List (Str × V)} {o : Obj} {u : HO} {ks : List (D × D)} {t : Bool} (hσ : σ[i]? = some (some (.ref a))) (hF : F a = some (.ins C dx fs)) (hC : c.mg (c.nm cn) = some (.ref C)) (hf : fs.lookup (c.nm n) = some (.ref d))
    (hd : F d = some (.frz o u)) (rp : Rep c F (.ref d) (.dct t ks)) (hK : PostI c W F S env σ H K (.ok (ks.map (·.1)) env)) : iKeys (tFld c.K (tVar i) (c.nm n)) σ H K := by
  obtain ⟨h1, h2⟩ := h.cls C hC
  refine ⟨.ref a, hσ, a, C, dx, fs, .ref d, rfl, hh.ex _ _ hF, h1, h2, hf, d, o, rfl, ?_⟩
  cases rp with
  | @dK _ kvs _ hk hl hkk hr =>
    rcases hk with hk | ⟨o', hk⟩
    · rw [hd] at hk; cases hk
    · rw [hd] at hk; cases hk
      exact .inl ⟨kvs, hh.ex _ _ hd, hK F S _ _ H (Go.rflS) hh Kp.rfl' (wk_keys hl hkk) hd⟩
  | @dT _ kvs _ hk hl hkk hr =>
    rcases hk with hk | ⟨o', hk⟩
    · rw [hd] at hk; cases hk
    · rw [hd] at hk; cases hk
      exact .inr ⟨kvs, hh.ex _ _ hd, hK F S _ _ H (Go.rflS) hh Kp.rfl' (wk_keysT hl hkk) hd⟩
theorem keysF_some {cn n i : Nat} {res : Res (List D)} (hh : Hold c F S env σ H) (h : AtOk c cn n) (e : itKeysF cn n i env = some res) : ∃ a C dx d fs ks t, res = .ok (ks.map (·.1)) env ∧ σ[i]? = some (some (.ref a)) ∧ F a = some (.ins C dx fs) ∧ c.mg (c.nm cn) = some (.ref C) ∧ fs.lookup (c.nm n) = some (.ref d) ∧ Rep c F (.ref d) (.dct t ks) ∧ ∃ u, IsDk u ∧ (F d = some u ∨ ∃ o, F d = some (.frz o u)) := by
  unfold itKeysF at e
  split at e
  · rename_i c1 ds hat
    split at e
    · rename_i ec
      subst ec
      split at e
      · rename_i t ks hlk
        cases e
        obtain ⟨v, hv, ro⟩ := hh.cell i _ hat
        have rp := rep_val ro
        cases rp with
        | @ins a C dx _ fs _ hC hF hl hn hr =>
          rcases nms_look h.one (nms_of hl hn) with ⟨_, _, q3⟩ | ⟨k, v, o, _, q2, q3, q4, q5⟩
          · rw [q3] at hlk; cases hlk
          · rw [q5] at hlk; cases hlk
            have rd := hr k _ _ q2 q3
            cases rd with
            | @dK d kvs _ hk =>
              refine ⟨a, C, dx, d, fs, ks, false, rfl, hv, hF, hC, q4, hr k _ _ q2 q3, .dK kvs, .inl ⟨_, rfl⟩, hk⟩
            | @dT d kvs _ hk =>
              refine ⟨a, C, dx, d, fs, ks, true, rfl, hv, hF, hC, q4, hr k _ _ q2 q3, .dT kvs, .inr ⟨_, rfl⟩, hk⟩
      · cases e
    · cases e
  · cases e
theorem v_compK {cn n i : Nat} {f : Str} {elt tg o : Expr} {ifs : List Expr} {scope : Scope} {own : List (Str × Nat)} {pos fpos : Pos} {t : Tg} {g : TG} {m : M Bool} {is : List Nat} (h : AtOk c cn n) (hK : c.K = X.K) (hf : f = c.nm n) (ho : PE X o (tVar i)) (eo : own.map (·.2) = is) (hc : X.calm = true) (hN : X.N.Nodup) (ok : BlkOk X.N X.env.scope scope own) (ht : TgOk c t g) (hsl : ∀ j ∈ t.slots, j ∈ is)
    (hg : ∀ (s : Shared) (H : Hp) (C : Addr) (cl : List (Str × Addr)) (fp : List Addr), PG (X.blk s H scope (compEnvC scope cl C X.env) fp) tg g) (hm : ∀ (s : Shared) (H : Hp) (C : Addr) (cl : List (Str × Addr)) (fp : List Addr), PTs (X.blk s H scope (compEnvC scope cl C X.env) fp) ifs (tVT c W0 m))
    (he : ∀ (s : Shared) (H : Hp) (C : Addr) (cl : List (Str × Addr)) (fp : List Addr), PE (X.blk s H scope (compEnvC scope cl C X.env) fp) elt (tV c W0 fa)) (hb : attributeBase o f X.env (eval o X.env) = eval o X.env := by rfl) (hs : ∀ x, foldedSetIterable (.Attribute o f fpos) X.env x = pure x := by intro _; rfl) :
    PE X (.ListComp elt [⟨tg, .Attribute o f fpos, ifs, 0⟩] scope pos) (tV c W (eComp is (itKeysF cn n i) t m fa)) := by
  subst hf
  have base := pe_lc (pos := pos) hc hN (pi_keys (tg := tg) (pe_fld (pos := fpos) ho hb)) ok hg hm he hs
  refine PE_imp (PE_or (pe_lock base) base) fun σ H Q q => ?_
  rw [eo, ← hK]
  obtain ⟨F, S, env, hh, res, e0, q⟩ := q
  have hit : ∃ ri, itKeysF cn n i env = some ri := by
    cases hi : itKeysF cn n i env with
    | none => unfold eComp M.bind at e0; rw [hi] at e0; cases e0
    | some ri => exact ⟨ri, rfl⟩
  obtain ⟨ri, hi⟩ := hit
  obtain ⟨a, C, dx, d, fs, ks, tt, er, hσ, hF, hC, hlk, rp, u, hu, hd⟩ := keysF_some hh h hi
  subst er
  rcases hd with hd | ⟨o', hd⟩
  · left
    refine ⟨d, u, hh.ex _ _ hd, isDk_mut hu, fun od => ?_⟩
    have hh1 := hh.lock (od := od) hd hu
    have nea : a ≠ d := fun e => by subst e; rw [hF] at hd; cases hd; rcases hu with ⟨k, e⟩ | ⟨k, e⟩ <;> cases e
    refine c_comp_g (W := W) ht hsl hh1 e0 ?_ fun K hh3 => ?_
    · cases res with
      | ex x e1 =>
        exfalso
        rcases (bind_some e0).symm with ⟨x, e1, h1, _⟩ | ⟨ds, e1, h1, e0⟩
        · rw [hi] at h1; cases h1
        · split at e0
          · cases e0
          · cases e0
      | ok r env' =>
        intro F2 S2 T2 v H2 g2 hh2 k2 is2
        have f2 : F2 d = some (.frz od u) := g2.exF d _ upd_same
        refine ⟨hh2.ex _ _ f2, ?_⟩
        have g3 := Go.unlock g2 hd (hh.ex _ _ hd)
        refine q (upd F2 d u) S2 T2 v (upd H2 d u) g3 (hh2.unlock f2 hu) k2 ?_
        cases r with
        | b j => exact is2
        | o x =>
          have ro : RO c F2 H2 v x T2 := is2
          exact ro.shift (fun v x r => r.unlock f2 hu) (fun a xs h => upd_same' h fun e => by subst e; rw [f2] at h; cases h) fun x u hx hux => upd_same' hux fun e => by subst e; have := g2.oT x hx; rw [f2] at this; cases this
    · obtain ⟨r, h1, h2⟩ := hh3
      rw [hi] at h1
      cases h1
      exact keys_hI h hh1 hσ (upd_same' hF nea) hC hlk upd_same (rp.lock hd hu) h2
  · right
    refine c_comp_g (W := W) ht hsl hh e0 (by cases res <;> exact q) fun K hh3 => ?_
    obtain ⟨r, h1, h2⟩ := hh3
    rw [hi] at h1
    cases h1
    exact keys_hI h hh hσ hF hC hlk hd rp h2
end VS
namespace VS
open PySem L2
variable {c : Cn} {W : WX} {F F' F1 F2 H H' H1 H2 : Hp} {S S' S1 S2 : Nat → Set1} {T T' T1 T2 : Set1} {σ σ' σ1 : L2.St} {r : R} {v : V} {env env' env1 : VEnv} {Q : VK} {fa fb fc : EV} {qa qb : Rd} {X : Cx} {tg e : Expr}
theorem v_ixD {k : Nat} {a b : Expr} {pos : Pos} (hK : c.K = X.K) (hr : Room k X.A) (ha : PE X a (tV c W fa)) (hb : PE X b (tV c W fb)) (hp : PlainIx b) (hs : NoSl b := by exact fun _ _ => rfl) : PE X (.Subscript a b pos) (tV c W (eOp2 gIx3 fa fb)) := v_ixG3 (by have := hr.un; omega) hK ha hb hp hs
theorem v_inD {k : Nat} {a b : Expr} {pos : Pos} (hK : c.K = X.K) (hr : Room k X.A) (ha : PE X a (tV c W fa)) (hb : PE X b (tV c W fb)) (hm : behindInMarks .In b = false := by rfl) : PE X (.Compare a [.In] [b] pos) (tV c W (eOp2 (gIn false) fa fb)) := v_inG (by have := hr.un; omega) hK ha hb hm
theorem v_notInD {k : Nat} {a b : Expr} {pos : Pos} (hK : c.K = X.K) (hr : Room k X.A) (ha : PE X a (tV c W fa)) (hb : PE X b (tV c W fb)) (hm : behindInMarks .NotIn b = false := by rfl) : PE X (.Compare a [.NotIn] [b] pos) (tV c W (eOp2 (gIn true) fa fb)) := v_notInG (by have := hr.un; omega) hK ha hb hm
theorem v_getA {k : Nat} {o e : Expr} {apos cpos : Pos} (hr : Room k X.A) (ho : PE X o (tV c W fa)) (he : PE X e (tV c W fb)) (m : M1 X o "get" apos e cpos := by exact ⟨rfl, rfl, rfl, rfl⟩) : PE X (.Call (.Attribute o "get" apos) [e] [] cpos) (tV c W (eRecv isDctR fa [fb] opGet1)) := v_get1 (by have := hr.un; omega) ho he m
theorem v_getB {k : Nat} {o e f : Expr} {apos cpos : Pos} (hr : Room k X.A) (ho : PE X o (tV c W fa)) (he : PE X e (tV c W fb)) (hf : PE X f (tV c W fc)) (m : M2 X o "get" apos e f cpos := by exact ⟨rfl, rfl, rfl, rfl⟩) : PE X (.Call (.Attribute o "get" apos) [e, f] [] cpos) (tV c W (eRecv isDctR fa [fb, fc] opGet2)) := v_get2 (by have := hr.un; omega) ho he hf m
theorem vs_setD {k : Nat} {pl : Pl} {q : Rd} {o i e : Expr} {pos pos' : Pos} (hr : Room k X.A) (ho : PE X o (tPl c pl)) (hi : PE X i (tR c q)) (he : PE X e (tV c W fa)) (hs : swapsWith e (some (.Subscript o i pos')) pos.line X.env = pure false := by rfl) :
    PS X (.Assign [.Subscript o i pos'] e pos) (tS c W (sSetK pl q fa)) := vs_setK (by have := hr.un; omega) ho hi he hs
theorem v_sortS {k : Nat} {f : Addr} {y : Str} {e : Expr} {p1 p2 p3 pos : Pos} (hK : c.K = X.K) (hr : Room k X.A) (KD : KeyDef X.prog X.w X.K f) (hg : Gl X "sorted") (hm : X.mg "sorted" = none) (hgy : Gl X y) (hmy : X.mg y = some (.ref f)) (ha : PE X e (tV c W fa))
    (hdy : (y == ("__debug__" : Str)) = false := by decide) (hst : starEach [e] X.env = (false, eval e X.env) :: starEach [] X.env := by rfl)
    (he : backTo pos (starEach [e] X.env) = (false, eval e X.env) :: backTo pos (starEach [] X.env) := by rfl) (hpl : (backTo pos (starEach [e] X.env)).any (·.1) = false := by rfl)
    (hall : (backToKw pos (keywordEach [⟨some "key", .Name y p2, p3⟩] X.env)).all (·.1.isSome) = true := by rfl) (hnone : (backToKw pos (keywordEach [⟨some "key", .Name y p2, p3⟩] X.env)).any (·.1.isNone) = false := by rfl) (hks : (backToKw pos (keywordEach [⟨some "key", .Name y p2, p3⟩] X.env)).filterMap (·.1) = [Str.ofString "key"] := by rfl) :
    PE X (.Call (.Name "sorted" p1) [e] [⟨some "key", .Name y p2, p3⟩] pos) (tV c W (eOp opSortSnd (eArgs [fa]))) := v_sortSnd hK KD (by have := hr.un; omega) hr.depth hg hm hgy hmy ha hdy hst he hpl hall hnone hks
section
variable {lf : List He.Fa} {fn : List He.DefD} {K : PySem.W.Frag} {mg : Str → Option Value} {nm : Nat → Str}
theorem Tx.at_ (T : Tx lf fn K mg) (hn : ∀ n, OneN nm n) (i j k : Nat) {x f : Str} {cn n : Nat} (hx : x = nm cn) (hf : f = nm n) (h1 : lf[i]? = some (.glo x) := by rfl) (h2 : lf[j]? = some (.cls x) := by rfl) (h3 : lf[k]? = some (.noat x f) := by rfl) : AtOk ⟨K, mg, nm⟩ cn n := by
  subst hx; subst hf
  refine ⟨hn n, fun C hC => ?_⟩
  have := T.glo i h1
  rw [show mg (nm cn) = some (.ref C) from hC] at this
  cases this
  exact ⟨He.cls_ok (T.says.fact j h2), He.noat_ok (T.says.fact k h3)⟩
theorem Tx.mk_ (T : Tx lf fn K mg) (i j : Nat) {x : Str} {cn : Nat} (hx : x = nm cn) (h1 : lf[i]? = some (.glo x) := by rfl) (h2 : lf[j]? = some (.mkr x) := by rfl) : MkOk ⟨K, mg, nm⟩ cn (He.ma K (He.ga K x) "__init__") := by
  subst hx
  exact ⟨_, T.glo i h1, He.mkr_ok (T.says.fact j h2)⟩
theorem Tx.mt_ (T : Tx lf fn K mg) (hn : ∀ n, OneN nm n) (i j k : Nat) {x m : Str} {cn n : Nat} (hx : x = nm cn) (hm : m = nm n) (h1 : lf[i]? = some (.glo x) := by rfl) (h2 : lf[j]? = some (.cls x) := by rfl) (h3 : lf[k]? = some (.meth x m) := by rfl) : MtOk ⟨K, mg, nm⟩ cn n (He.ma K (He.ga K x) m) := by
  subst hx; subst hm
  refine ⟨hn n, fun C hC => ?_, _, T.glo i h1⟩
  have := T.glo i h1
  rw [show mg (nm cn) = some (.ref C) from hC] at this
  cases this
  exact ⟨He.cls_ok (T.says.fact j h2), He.meth_ok (T.says.fact k h3)⟩
end
def clsBody (s : Stmt) : List Stmt := match s with
  | .ClassDef _ _ _ b _ _ _ _ _ _ _ => b
  | _ => []
end VS
namespace VS
@[irreducible] def Wp {α : Type} (m : M α) (env : VEnv) (Q : α → VEnv → Prop) (X : Exc → VEnv → Prop) : Prop := match m env with
  | some (.ok a e) => Q a e
  | some (.ex x e) => X x e
  | none => False
@[irreducible] def FS (g : Fn) (os : List O) (Q : O → List O → Prop) (X : Exc → List O → Prop) : Prop := match g os with
  | some (.ret x os') => Q x os'
  | some (.ex e os') => X e os'
  | none => False
section
variable {α β : Type} {m : M α} {k : α → M β} {env e1 : VEnv} {Q : β → VEnv → Prop} {QA : α → VEnv → Prop} {X : Exc → VEnv → Prop}
theorem Wp_bind (h : Wp m env (fun a e => Wp (k a) e Q X) X) : Wp (M.bind m k) env Q X := by
  unfold Wp M.bind at *
  cases hm : m env with
  | none => rw [hm] at h; exact h
  | some r =>
    rw [hm] at h
    cases r with
    | ok a e => exact h
    | ex x e => exact h
theorem Wp_mono {QA' : α → VEnv → Prop} {X' : Exc → VEnv → Prop} (h : Wp m env QA X) (i : ∀ a e, QA a e → QA' a e) (j : ∀ x e, X x e → X' x e) : Wp m env QA' X' := by
  unfold Wp at *
  cases hm : m env with
  | none => rw [hm] at h; exact h
  | some r =>
    rw [hm] at h
    cases r with
    | ok a e => exact i _ _ h
    | ex x e => exact j _ _ h
theorem Wp_ret {a : α} (h : QA a env) : Wp (M.ret a) env QA X := by unfold Wp; exact h
theorem Wp_eq {m' : M α} {env' : VEnv} (h : m env = m' env') (q : Wp m' env' QA X) : Wp m env QA X := by
  unfold Wp at *
  rw [h]
  exact q
theorem Wp_of {r : Res α} (h : m env = some r) (q : match r with | .ok a e => QA a e | .ex x e => X x e) : Wp m env QA X := by
  unfold Wp
  rw [h]
  cases r <;> exact q
theorem Wp_lift {g : VEnv → Option (α × VEnv)} {a : α} (h : g env = some (a, e1)) (q : QA a e1) : Wp (M.lift g) env QA X := by
  unfold Wp M.lift
  rw [h]
  exact q
end
theorem FS_mono {g : Fn} {os : List O} {Q Q' : O → List O → Prop} {X X' : Exc → List O → Prop} (h : FS g os Q X) (i : ∀ a e, Q a e → Q' a e) (j : ∀ x e, X x e → X' x e) : FS g os Q' X' := by
  unfold FS at *
  cases hm : g os with
  | none => rw [hm] at h; exact h
  | some r =>
    rw [hm] at h
    cases r with
    | ret a e => exact i _ _ h
    | ex x e => exact j _ _ h
theorem FS_some {g : Fn} {os : List O} {Q : O → List O → Prop} (h : FS g os Q (fun _ _ => False)) : ∃ x os', g os = some (.ret x os') ∧ Q x os' := by
  unfold FS at h
  cases hm : g os with
  | none => rw [hm] at h; exact h.elim
  | some r =>
    rw [hm] at h
    cases r with
    | ret a e => exact ⟨a, e, rfl, h⟩
    | ex x e => exact h.elim
def LN : Cell → Prop
  | .par _ => False
  | _ => True
inductive Upd : VEnv → Nat → Cell → VEnv → Prop
  | zA {a c : Cell} {e : VEnv} : LN a → Upd (a :: e) 0 c (c :: e)
  | zL {o : O} {c : Cell} {e : VEnv} : Upd (.loc o :: e) 0 c (c :: e)
  | zN {c : Cell} {e : VEnv} : Upd (.no :: e) 0 c (c :: e)
  | s {a c : Cell} {e e' : VEnv} {i : Nat} : Upd e i c e' → Upd (a :: e) (i + 1) c (a :: e')
theorem Upd.eq {e e' : VEnv} {i : Nat} {o : O} (h : Upd e i (.loc o) e') : setLoc i o e = some e' := by
  generalize hc : Cell.loc o = c at h
  induction h with
  | @zA a c e hn =>
    subst hc
    cases a with
    | no => rfl
    | loc y => rfl
    | par y => exact hn.elim
  | zL => subst hc; rfl
  | zN => subst hc; rfl
  | @s a c e e' i h ih =>
    subst hc
    have := ih rfl
    unfold setLoc at this ⊢
    rw [List.getElem?_cons_succ]
    split at this
    · cases this
    · rename_i q hn hq
      cases this
      rw [hq]
      cases q with
      | par y => exact absurd rfl (hn y)
      | no => rfl
      | loc y => rfl
    · cases this
inductive Put : VEnv → Nat → O → VEnv → Prop
  | zL {o x : O} {e : VEnv} : Put (.loc o :: e) 0 x (.loc x :: e)
  | zP {o x : O} {e : VEnv} : Put (.par o :: e) 0 x (.par x :: e)
  | s {a : Cell} {x : O} {e e' : VEnv} {i : Nat} : Put e i x e' → Put (a :: e) (i + 1) x (a :: e')
theorem Put.eq {e e' : VEnv} {i : Nat} {o : O} (h : Put e i o e') : VEnv.put e i o = e' := by
  induction h with
  | zL => rfl
  | zP => rfl
  | @s a x e e' i h ih =>
    rw [← ih]
    unfold VEnv.put
    rw [List.getElem?_cons_succ]
    cases e[i]? with
    | none => rfl
    | some q => cases q <;> rfl
section
variable {env e1 : VEnv} {Q : R → VEnv → Prop} {X : Exc → VEnv → Prop} {i : Nat} {d : D} {o x : O} {a b : EV}
theorem Wp_var (h : env.at i = some (.val d)) (q : Q (.o (.val d)) env) : Wp (eVar i) env Q X := by
  unfold Wp eVar
  rw [h]
  exact q
def isV : O → Bool
  | .val _ => true
  | _ => false
theorem Wp_varB (h : env.at i = some o) (hn : isV o = false) (q : Q (.b i) env) : Wp (eVar i) env Q X := by
  unfold Wp eVar
  rw [h]
  cases o with
  | val d => cases hn
  | lst => exact q
  | tup => exact q
  | dct => exact q
  | ins => exact q
theorem Wp_c (q : Q (.o (.val d)) env) : Wp (eC d) env Q X := Wp_ret q
theorem Wp_pure {g : Rd} (h : g env = some (.val d)) (q : Q (.o (.val d)) env) : Wp (ePure g) env Q X := by
  unfold Wp ePure
  rw [h]
  exact q
@[irreducible] def Ops (g : List R → VEnv → Option (R × VEnv)) (rs : List R) (Q : R → VEnv → Prop) (e : VEnv) : Prop := ∃ r e', g rs e = some (r, e') ∧ Q r e'
theorem Ops_mk {g : List R → VEnv → Option (R × VEnv)} {rs : List R} {r : R} (h : g rs env = some (r, e1)) (q : Q r e1) : Ops g rs Q env := by unfold Ops; exact ⟨_, _, h, q⟩
theorem Wp_op {g : List R → VEnv → Option (R × VEnv)} {m : M (List R)} (h : Wp m env (fun rs e => Ops g rs Q e) X) : Wp (eOp g m) env Q X := by
  unfold Wp eOp at *
  cases hm : m env with
  | none => rw [hm] at h; exact h
  | some r =>
    rw [hm] at h
    cases r with
    | ok a e =>
      unfold Ops at h
      obtain ⟨r, e', h1, h2⟩ := h
      simp only [h1, Option.map_some]
      exact h2
    | ex x e => exact h
theorem Wp_nil {QA : List R → VEnv → Prop} (q : QA [] env) : Wp (eArgs []) env QA X := Wp_ret q
theorem Wp_cons {as : List EV} {QA : List R → VEnv → Prop} (h : Wp a env (fun r e => Wp (eArgs as) e (fun rs e' => QA (r :: rs) e') X) X) : Wp (eArgs (a :: as)) env QA X := by
  unfold eArgs
  refine Wp_bind (Wp_mono h (fun r e h => ?_) fun _ _ h => h)
  exact Wp_bind (Wp_mono h (fun rs e h => Wp_ret h) fun _ _ h => h)
theorem Ops_s {f : List D → Option D} {rs : List R} {ds : List D} (hm : (rs.mapM fun (r : R) => r.data env) = some ds) (hf : f ds = some d) (q : Q (.o (.val d)) env) : Ops (opS f) rs Q env := by
  refine Ops_mk ?_ q
  unfold opS
  rw [hm]
  simp [hf]
theorem Ops_s2 {f : List D → Option D} {d1 d2 : D} (hf : f [d1, d2] = some d) (q : Q (.o (.val d)) env) : Ops (opS f) [.o (.val d1), .o (.val d2)] Q env := Ops_s rfl hf q
theorem Ops_s1 {f : List D → Option D} {d1 : D} (hf : f [d1] = some d) (q : Q (.o (.val d)) env) : Ops (opS f) [.o (.val d1)] Q env := Ops_s rfl hf q
variable {j k : Int}
theorem Ops_add (q : Q (.o (.val (.int (j + k)))) env) : Ops gAdd [.o (.val (.int j)), .o (.val (.int k))] Q env := Ops_mk rfl q
theorem Ops_addS {s t : List Nat} (h : s.length + t.length ≤ maxLen) (q : Q (.o (.val (.str (s ++ t)))) env) : Ops gAdd [.o (.val (.str s)), .o (.val (.str t))] Q env := by
  refine Ops_mk ?_ q
  unfold gAdd opOr opS
  simp [R.data, R.own, O.data, fAdd, h]
theorem Ops_sub (q : Q (.o (.val (.int (j - k)))) env) : Ops (opS fSub) [.o (.val (.int j)), .o (.val (.int k))] Q env := Ops_mk rfl q
theorem Ops_mul (h : small64 j = true ∨ small64 k = true) (q : Q (.o (.val (.int (j * k)))) env) : Ops gMul [.o (.val (.int j)), .o (.val (.int k))] Q env := by
  refine Ops_mk ?_ q
  unfold gMul opOr opS
  have : (small64 j || small64 k) = true := by simpa using h
  simp [R.data, R.own, O.data, fMul, this]
theorem Ops_div (h : k ≠ 0) (h2 : k.natAbs < 1073741824) (q : Q (.o (.val (.int (j.fdiv k)))) env) : Ops (opS fDiv) [.o (.val (.int j)), .o (.val (.int k))] Q env := Ops_s2 (by simp [fDiv, h, h2]) q
theorem Ops_mod (h : k ≠ 0) (q : Q (.o (.val (.int (j.fmod k)))) env) : Ops (opS fMod) [.o (.val (.int j)), .o (.val (.int k))] Q env := Ops_s2 (by simp [fMod, h]) q
theorem Ops_pow (h : 0 ≤ k ∧ k ≤ 1000000 ∧ j.natAbs < 2 ^ 64) (q : Q (.o (.val (.int (j ^ k.toNat)))) env) : Ops (opS fPow) [.o (.val (.int j)), .o (.val (.int k))] Q env := Ops_s2 (by show (if _ then _ else _) = _; exact if_pos h) q
theorem Ops_neg (q : Q (.o (.val (.int (-j)))) env) : Ops (opS fNeg) [.o (.val (.int j))] Q env := Ops_mk rfl q
theorem Ops_abs (q : Q (.o (.val (.int (if j < 0 then -j else j)))) env) : Ops (opS fAbs) [.o (.val (.int j))] Q env := Ops_mk rfl q
theorem Ops_max2 (q : Q (.o (.val (.int (if k > j then k else j)))) env) : Ops (opS fMax2) [.o (.val (.int j)), .o (.val (.int k))] Q env := Ops_mk rfl q
theorem Ops_min2 (q : Q (.o (.val (.int (if k < j then k else j)))) env) : Ops (opS fMin2) [.o (.val (.int j)), .o (.val (.int k))] Q env := Ops_mk rfl q
theorem Ops_lt (q : Q (.o (.val (.bl (decide (j < k))))) env) : Ops (opS fLt) [.o (.val (.int j)), .o (.val (.int k))] Q env := Ops_mk rfl q
theorem Ops_le (q : Q (.o (.val (.bl (decide (j ≤ k))))) env) : Ops (opS fLe) [.o (.val (.int j)), .o (.val (.int k))] Q env := Ops_mk rfl q
theorem Ops_gt (q : Q (.o (.val (.bl (decide (k < j))))) env) : Ops (opS fGt) [.o (.val (.int j)), .o (.val (.int k))] Q env := Ops_mk rfl q
theorem Ops_ge (q : Q (.o (.val (.bl (decide (k ≤ j))))) env) : Ops (opS fGe) [.o (.val (.int j)), .o (.val (.int k))] Q env := Ops_mk rfl q
theorem eqD_int : eqD (.int j) (.int k) = decide (j = k) := by
  unfold eqD
  by_cases h : j = k <;> simp [h]
theorem Ops_eqI (q : Q (.o (.val (.bl (decide (j = k))))) env) : Ops (opS fEq) [.o (.val (.int j)), .o (.val (.int k))] Q env := Ops_s2 (by simp [fEq, okE, D.canE, D.dep, eqD_int]) q
theorem Ops_neI (q : Q (.o (.val (.bl (decide (j ≠ k))))) env) : Ops (opS fNe) [.o (.val (.int j)), .o (.val (.int k))] Q env := Ops_s2 (by simp [fNe, okE, D.canE, D.dep, eqD_int]) q
theorem Ops_eq {r1 r2 : R} {x y : D} (h1 : r1.data env = some x) (h2 : r2.data env = some y) (hx : okE x = true) (hy : okE y = true) (q : Q (.o (.val (.bl (eqD x y)))) env) : Ops (opS fEq) [r1, r2] Q env := Ops_s (ds := [x, y]) (by simp [h1, h2]) (by simp [fEq, hx, hy]) q
theorem Ops_ne {r1 r2 : R} {x y : D} (h1 : r1.data env = some x) (h2 : r2.data env = some y) (hx : okE x = true) (hy : okE y = true) (q : Q (.o (.val (.bl (!eqD x y)))) env) : Ops (opS fNe) [r1, r2] Q env := Ops_s (ds := [x, y]) (by simp [h1, h2]) (by simp [fNe, hx, hy]) q
theorem Ops_isN {r1 : R} {x : D} (h1 : r1.data env = some x) (q : Q (.o (.val (.bl x.isN))) env) : Ops (opS fIs) [r1, .o (.val .non)] Q env := Ops_s (ds := [x, .non]) (by have h2 : (R.o (.val .non)).data env = some .non := rfl; simp [h1, h2]) rfl q
theorem Ops_isNotN {r1 : R} {x : D} (h1 : r1.data env = some x) (q : Q (.o (.val (.bl (!x.isN)))) env) : Ops (opS fIsNot) [r1, .o (.val .non)] Q env := Ops_s (ds := [x, .non]) (by have h2 : (R.o (.val .non)).data env = some .non := rfl; simp [h1, h2]) rfl q
theorem Ops_isT {r1 : R} {x : D} {t : Ty} {b : Bool} (h1 : r1.data env = some x) (h2 : isT x t = some b) (q : Q (.o (.val (.bl b))) env) : Ops (opS (fIsT t)) [r1] Q env := Ops_s (ds := [x]) (by simp [h1]) (by simp [fIsT, h2]) q
theorem Ops_1 {r1 : R} {x : D} {f : List D → Option D} (h1 : r1.data env = some x) (h2 : f [x] = some d) (q : Q (.o (.val d)) env) : Ops (opS f) [r1] Q env := Ops_s (ds := [x]) (by simp [h1]) h2 q
theorem datas_length : ∀ os : List O, (datas os).length = os.length
  | [] => rfl
  | _ :: os => congrArg (· + 1) (datas_length os)
theorem Ops_lenL {r1 : R} {os : List O} (h1 : r1.own env = some (.lst os)) (q : Q (.o (.val (.int os.length))) env) : Ops (opS fLen) [r1] Q env := Ops_1 (x := .lst (datas os)) (by simp [R.data, h1, O.data]) (by simp [fLen, datas_length]) q
theorem Ops_lenV {os : List D} (q : Q (.o (.val (.int os.length))) env) : Ops (opS fLen) [.o (.val (.lst os))] Q env := Ops_s1 rfl q
theorem Ops_lenT {os : List D} (q : Q (.o (.val (.int os.length))) env) : Ops (opS fLen) [.o (.val (.tup os))] Q env := Ops_s1 rfl q
theorem Ops_lenN {os : List Int} (q : Q (.o (.val (.int os.length))) env) : Ops (opS fLen) [.o (.val (.scr os))] Q env := Ops_s1 rfl q
theorem Ops_lenS {s : List Nat} (h : s.length ≤ maxLen) (q : Q (.o (.val (.int s.length))) env) : Ops (opS fLen) [.o (.val (.str s))] Q env := Ops_s1 (by simp [fLen, h]) q
inductive Settle : R → VEnv → O → VEnv → Prop
  | o {x : O} {e : VEnv} : Settle (.o x) e x e
  | b {i : Nat} {y : O} {e e' : VEnv} : e[i]? = some (.loc y) → Upd e i (.loc (.val y.data)) e' → Settle (.b i) e (.val y.data) e'
theorem Upd.set {e e' : VEnv} {i : Nat} {c : Cell} (h : Upd e i c e') : e.set i c = e' := by
  induction h with
  | zA _ => rfl
  | zL => rfl
  | zN => rfl
  | s _ ih => rw [List.set_cons_succ, ih]
theorem Settle.eq {r : R} {e e' : VEnv} {x : O} (h : Settle r e x e') : r.settle e = some (x, e') := by
  cases h with
  | o => rfl
  | b h1 h2 => unfold R.settle; simp only [h1, h2.set]
inductive Settles : List R → VEnv → List O → VEnv → Prop
  | n {e : VEnv} : Settles [] e [] e
  | c {r : R} {rs : List R} {x : O} {xs : List O} {e e1 e2 : VEnv} : Settle r e x e1 → Settles rs e1 xs e2 → Settles (r :: rs) e (x :: xs) e2
theorem Settles.eq {rs : List R} {e e' : VEnv} {xs : List O} (h : Settles rs e xs e') : settles rs e = some (xs, e') := by
  induction h with
  | n => rfl
  | c h1 _ ih => unfold settles; rw [h1.eq]; simp [ih]
theorem Ops_lst {rs : List R} {xs : List O} (h : Settles rs env xs e1) (hl : rs.length ≤ maxLen) (q : Q (.o (.lst xs)) e1) : Ops opLst rs Q env := Ops_mk (by unfold opLst; rw [if_pos hl, h.eq]; rfl) q
theorem Ops_tup {rs : List R} {xs : List O} (h : Settles rs env xs e1) (hl : rs.length ≤ maxLen) (q : Q (.o (mkTup xs)) e1) : Ops opTup rs Q env := Ops_mk (by unfold opTup; rw [if_pos hl, h.eq]; rfl) q
theorem vals_map' (ds : List D) : vals (ds.map .val) = some ds := by
  induction ds with
  | nil => rfl
  | cons d ds ih => rw [List.map_cons, vals, ih]; rfl
inductive Items : R → VEnv → Bool → List D → Prop
  | ol {ds : List D} {e : VEnv} : Items (.o (oLst ds)) e true ds
  | ol2 {os : List O} {ds : List D} {e : VEnv} : vals os = some ds → Items (.o (.lst os)) e true ds
  | vl {ds : List D} {e : VEnv} : Items (.o (.val (.lst ds))) e true ds
  | vt {ds : List D} {e : VEnv} : Items (.o (.val (.tup ds))) e false ds
  | b {i : Nat} {e : VEnv} {ds : List D} : e.at i = some (oLst ds) → Items (.b i) e true ds
  | b2 {i : Nat} {os : List O} {ds : List D} {e : VEnv} : e.at i = some (.lst os) → vals os = some ds → Items (.b i) e true ds
theorem Items.eq {r : R} {e : VEnv} {b : Bool} {ds : List D} (h : Items r e b ds) : r.items e = some (b, ds) := by
  cases h with
  | ol => simp [R.items, R.own, oLst, vals_map']
  | ol2 h => simp [R.items, R.own, h]
  | vl => simp [R.items, R.own]
  | vt => simp [R.items, R.own]
  | b h => simp [R.items, R.own, h, oLst, vals_map']
  | b2 h h2 => simp [R.items, R.own, h, h2]
theorem Items.sdata {r : R} {e : VEnv} {b : Bool} {ds : List D} (h : Items r e b ds) : r.data e = some (if b = true then .lst ds else .tup ds) := by
  have aux : ∀ ds : List D, datas (ds.map .val) = ds := fun ds => by
    induction ds with
    | nil => rfl
    | cons d ds ih => rw [List.map_cons, datas, ih]; rfl
  have aux2 : ∀ (os : List O) (ds : List D), vals os = some ds → datas os = ds := fun os => by
    induction os with
    | nil => intro ds h; cases h; rfl
    | cons o os ih =>
      intro ds h
      cases o with
      | val d =>
        unfold vals at h
        obtain ⟨r, hr, rfl⟩ := Option.map_eq_some_iff.mp h
        rw [datas, ih r hr]
        rfl
      | lst => cases h
      | tup => cases h
      | dct => cases h
      | ins => cases h
  cases h with
  | ol => simp [R.data, R.own, oLst, O.data, aux]
  | ol2 h => simp [R.data, R.own, O.data, aux2 _ _ h]
  | vl => simp [R.data, R.own, O.data]
  | vt => simp [R.data, R.own, O.data]
  | b h => simp [R.data, R.own, h, oLst, O.data, aux]
  | b2 h h2 => simp [R.data, R.own, h, O.data, aux2 _ _ h2]
theorem oLst_data' (ds : List D) : (oLst ds).data = .lst ds := by
  have : ∀ ds : List D, datas (ds.map .val) = ds := fun ds => by
    induction ds with
    | nil => rfl
    | cons d ds ih => rw [List.map_cons, datas, ih]; rfl
  rw [oLst, O.data, this]
inductive RD : R → VEnv → D → Prop
  | v {d : D} {e : VEnv} : RD (.o (.val d)) e d
  | ol {ds : List D} {e : VEnv} : RD (.o (oLst ds)) e (.lst ds)
  | b {i : Nat} {ds : List D} {e : VEnv} : e.at i = some (oLst ds) → RD (.b i) e (.lst ds)
  | any {r : R} {e : VEnv} {d : D} : r.data e = some d → RD r e d
theorem RD.eq {r : R} {e : VEnv} {d : D} (h : RD r e d) : r.data e = some d := by
  cases h with
  | v => rfl
  | ol => show some _ = _; rw [oLst_data']
  | @b i ds e h => show Option.map O.data (e.at i) = _; rw [h]; show some _ = _; rw [oLst_data']
  | any h => exact h
theorem Ops_len {r : R} {ds : List D} (h : RD r env (.lst ds)) (q : Q (.o (.val (.int ds.length))) env) : Ops (opS fLen) [r] Q env := Ops_1 h.eq rfl q
theorem Ops_eqD {r1 r2 : R} {x y : D} (h1 : RD r1 env x) (h2 : RD r2 env y) (hx : okE x = true) (hy : okE y = true) (q : Q (.o (.val (.bl (eqD x y)))) env) : Ops (opS fEq) [r1, r2] Q env := Ops_eq h1.eq h2.eq hx hy q
theorem Ops_neD {r1 r2 : R} {x y : D} (h1 : RD r1 env x) (h2 : RD r2 env y) (hx : okE x = true) (hy : okE y = true) (q : Q (.o (.val (.bl (!eqD x y)))) env) : Ops (opS fNe) [r1, r2] Q env := Ops_ne h1.eq h2.eq hx hy q
inductive RVals : List R → List D → Prop
  | n : RVals [] []
  | c {rs : List R} {d : D} {ds : List D} : RVals rs ds → RVals (.o (.val d) :: rs) (d :: ds)
theorem RVals.settles {rs : List R} {ds : List D} {e : VEnv} (h : RVals rs ds) : Settles rs e (ds.map .val) e := by
  induction h with
  | n => exact .n
  | c _ ih => exact .c .o ih
theorem Ops_lstV {rs : List R} {ds : List D} (h : RVals rs ds) (hl : rs.length ≤ maxLen) (q : Q (.o (oLst ds)) env) : Ops opLst rs Q env := Ops_lst h.settles hl q
theorem Ops_tupV {rs : List R} {ds : List D} (h : RVals rs ds) (hl : rs.length ≤ maxLen) (q : Q (.o (.val (.tup ds))) env) : Ops opTup rs Q env := Ops_tup h.settles hl (by unfold mkTup; rw [vals_map']; exact q)
theorem Ops_cat {r1 r2 : R} {xs ys : List D} (h1 : Items r1 env true xs) (h2 : Items r2 env true ys) (hl : xs.length + ys.length ≤ maxLen) (q : Q (.o (oLst (xs ++ ys))) env) : Ops gAdd [r1, r2] Q env := by
  refine Ops_mk ?_ q
  unfold gAdd opOr opS
  simp [h1.sdata, h2.sdata, fAdd, opCat, h1.eq, h2.eq, hl]
theorem Ops_catT {r1 r2 : R} {xs ys : List D} (h1 : Items r1 env false xs) (h2 : Items r2 env false ys) (hl : xs.length + ys.length ≤ maxLen) (q : Q (.o (.val (.tup (xs ++ ys)))) env) : Ops gAdd [r1, r2] Q env := by
  refine Ops_mk ?_ q
  unfold gAdd opOr opS
  simp [h1.sdata, h2.sdata, fAdd, opCat, h1.eq, h2.eq, hl]
theorem Ops_rep {r1 : R} {xs : List D} (h1 : Items r1 env true xs) (hk : -(2 ^ 63) ≤ k ∧ k < 2 ^ 63 ∧ xs.length * k.toNat ≤ maxLen) (q : Q (.o (oLst (List.replicate k.toNat xs).flatten)) env) : Ops gMul [r1, .o (.val (.int k))] Q env := by
  refine Ops_mk ?_ q
  have h2 : (R.o (.val (.int k))).data env = some (.int k) := rfl
  unfold gMul opOr opS opRep
  simp only [h1.eq, h2, if_pos hk]
  simp [h1.sdata, h2, fMul]
theorem Ops_ix {r1 : R} {b : Bool} {xs : List D} (h1 : Items r1 env b xs) (h : atD xs k = some d) (q : Q (.o (.val d)) env) : Ops gIx2 [r1, .o (.val (.int k))] Q env := by
  refine Ops_mk ?_ q
  unfold gIx2 gIx opOr opIx
  simp [h1.eq, R.data, R.own, O.data, h]
theorem Ops_ixS {s : List Nat} {n : Nat} (hl : s.length ≤ maxLen) (h : atD s k = some n) (q : Q (.o (.val (.str [n]))) env) : Ops gIx2 [.o (.val (.str s)), .o (.val (.int k))] Q env := by
  refine Ops_mk ?_ q
  unfold gIx2 gIx opOr opIx
  simp [R.items, R.data, R.own, O.data, h, hl]
theorem Ops_ixO {os : List O} (hv : vals os = none) (h : atD os k = some x) (q : Q (.o x) env) : Ops gIx2 [.o (.lst os), .o (.val (.int k))] Q env := by
  refine Ops_mk ?_ q
  unfold gIx2 gIx opOr opIx opIxT
  simp [R.items, R.data, R.own, O.data, h, hv]
theorem Wp_slice {ml mh : M (Option Int)} (h : Wp a env (fun r e => Wp ml e (fun l e => Wp mh e (fun h e => ∃ r' e', opSl r l h e = some (r', e') ∧ Q r' e') X) X) X) : Wp (eSlice a ml mh) env Q X :=
  Wp_bind (Wp_mono h (fun r e h => Wp_bind (Wp_mono h (fun l e h => Wp_bind (Wp_mono h (fun u e h => by
    obtain ⟨r', e', h1, h2⟩ := h
    exact Wp_lift h1 h2) fun _ _ h => h)) fun _ _ h => h)) fun _ _ h => h)
theorem Wp_noPart {QO : Option Int → VEnv → Prop} (q : QO none env) : Wp eNoPart env QO X := Wp_ret q
theorem Wp_part {QO : Option Int → VEnv → Prop} (h : Wp a env (fun r e => ∃ k, r = .o (.val (.int k)) ∧ QO (some k) e) X) : Wp (ePart a) env QO X :=
  Wp_bind (Wp_mono h (fun r e h => by obtain ⟨k, rfl, h⟩ := h; exact Wp_ret h) fun _ _ h => h)
theorem Sl_lst {r : R} {xs : List D} {lo hi : Option Int} (h : Items r env true xs) (q : Q (.o (oLst (cutD xs lo hi))) env) : ∃ r' e', opSl r lo hi env = some (r', e') ∧ Q r' e' := ⟨_, _, by unfold opSl; rw [h.eq], q⟩
theorem Sl_tup {r : R} {xs : List D} {lo hi : Option Int} (h : Items r env false xs) (q : Q (.o (.val (.tup (cutD xs lo hi)))) env) : ∃ r' e', opSl r lo hi env = some (r', e') ∧ Q r' e' := ⟨_, _, by unfold opSl; rw [h.eq], q⟩
theorem Sl_str {s : List Nat} {lo hi : Option Int} (hl : s.length ≤ maxLen) (q : Q (.o (.val (.str (cutD s lo hi)))) env) : ∃ r' e', opSl (.o (.val (.str s))) lo hi env = some (r', e') ∧ Q r' e' := ⟨_, _, by simp [opSl, R.items, R.data, R.own, O.data, hl], q⟩
theorem Sl_scr {s : List Int} {lo hi : Option Int} (q : Q (.o (oLst ((cutD s lo hi).map .int))) env) : ∃ r' e', opSl (.o (.val (.scr s))) lo hi env = some (r', e') ∧ Q r' e' := ⟨_, _, by simp [opSl, R.items, R.data, R.own, O.data], q⟩
theorem Ops_list {r : R} {b : Bool} {xs : List D} (h : Items r env b xs) (q : Q (.o (oLst xs)) env) : Ops opList [r] Q env := Ops_mk (by simp [opList, h.eq]) q
theorem Ops_tuple {r : R} {b : Bool} {xs : List D} (h : Items r env b xs) (q : Q (.o (.val (.tup xs))) env) : Ops opTuple [r] Q env := Ops_mk (by simp [opTuple, h.eq]) q
end
end VS
namespace VS
section
variable {env e1 : VEnv} {X : Exc → VEnv → Prop} {i : Nat} {d : D} {o x : O} {a b : EV} {m m2 : M Bool} {f g : SV1}
variable {QB : Bool → VEnv → Prop}
theorem Wp_test (h : Wp a env (fun r e => ∃ b, r = .o (.val (.bl b)) ∧ QB b e) X) : Wp (eTest a) env QB X :=
  Wp_bind (Wp_mono h (fun r e h => by obtain ⟨k, rfl, h⟩ := h; exact Wp_ret h) fun _ _ h => h)
theorem Wp_and (h : Wp m env (fun b e => (b = true → Wp m2 e QB X) ∧ (b = false → QB false e)) X) : Wp (eAnd m m2) env QB X :=
  Wp_bind (Wp_mono h (fun b e h => by
    cases b with
    | true => exact h.1 rfl
    | false => exact Wp_ret (h.2 rfl)) fun _ _ h => h)
theorem Wp_or (h : Wp m env (fun b e => (b = true → QB true e) ∧ (b = false → Wp m2 e QB X)) X) : Wp (eOr m m2) env QB X :=
  Wp_bind (Wp_mono h (fun b e h => by
    cases b with
    | true => exact Wp_ret (h.1 rfl)
    | false => exact h.2 rfl) fun _ _ h => h)
theorem Wp_not (h : Wp m env (fun b e => QB (!b) e) X) : Wp (eNot m) env QB X := Wp_bind (Wp_mono h (fun _ _ h => Wp_ret h) fun _ _ h => h)
variable {Q : R → VEnv → Prop}
theorem Wp_notV (h : Wp a env (fun r e => ∃ b, r = .o (.val (.bl b)) ∧ Q (.o (.val (.bl (!b)))) e) X) : Wp (eNotV a) env Q X :=
  Wp_bind (Wp_not (Wp_test (Wp_mono h (fun r e h => by obtain ⟨b, rfl, h⟩ := h; exact ⟨b, rfl, Wp_ret h⟩) fun _ _ h => h)))
theorem Wp_andV (h : Wp a env (fun r e => ∃ b', r = .o (.val (.bl b')) ∧ (b' = true → Wp b e Q X) ∧ (b' = false → Q (.o (.val (.bl false))) e)) X) : Wp (eAndV a b) env Q X :=
  Wp_bind (Wp_test (Wp_mono h (fun r e h => by
    obtain ⟨b', rfl, h1, h2⟩ := h
    refine ⟨b', rfl, ?_⟩
    cases b' with
    | true => exact h1 rfl
    | false => exact Wp_ret (h2 rfl)) fun _ _ h => h))
theorem Wp_orV (h : Wp a env (fun r e => ∃ b', r = .o (.val (.bl b')) ∧ (b' = true → Q (.o (.val (.bl true))) e) ∧ (b' = false → Wp b e Q X)) X) : Wp (eOrV a b) env Q X :=
  Wp_bind (Wp_test (Wp_mono h (fun r e h => by
    obtain ⟨b', rfl, h1, h2⟩ := h
    refine ⟨b', rfl, ?_⟩
    cases b' with
    | true => exact Wp_ret (h1 rfl)
    | false => exact h2 rfl) fun _ _ h => h))
theorem Wp_ifE {c : M Bool} (h : Wp c env (fun t e => (t = true → Wp a e Q X) ∧ (t = false → Wp b e Q X)) X) : Wp (eIf c a b) env Q X :=
  Wp_bind (Wp_mono h (fun t e h => by
    cases t with
    | true => exact h.1 rfl
    | false => exact h.2 rfl) fun _ _ h => h)
theorem Wp_chain {p1 p2 : Int → Int → Bool} {c : EV} (h : Wp a env (fun r e => Wp b e (fun s e' => ∃ i j, r = .o (.val (.int i)) ∧ s = .o (.val (.int j)) ∧ (p1 i j = true → Wp c e' (fun w e2 => ∃ k, w = .o (.val (.int k)) ∧ Q (.o (.val (.bl (p2 j k)))) e2) X) ∧ (p1 i j = false → Q (.o (.val (.bl false))) e')) X) X) : Wp (eChain (fCmp p1) (fCmp p2) a b c) env Q X := by
  refine Wp_bind (Wp_mono h (fun r e h => Wp_bind (Wp_mono h (fun s e' h => ?_) fun _ _ h => h)) fun _ _ h => h)
  obtain ⟨i, j, rfl, rfl, h1, h2⟩ := h
  refine Wp_bind (Wp_lift (a := .o (.val (.bl (p1 i j)))) (e1 := e') rfl ?_)
  cases hp : p1 i j with
  | true => exact Wp_bind (Wp_mono (h1 hp) (fun w e2 h => by
      obtain ⟨k, rfl, h⟩ := h
      exact Wp_lift (e1 := e2) rfl h) fun _ _ h => h)
  | false => exact Wp_ret (h2 hp)
theorem br_dec {p : Prop} [Decidable p] {A B : Prop} (h1 : p → A) (h2 : ¬ p → B) : (decide p = true → A) ∧ (decide p = false → B) := ⟨fun h => h1 (of_decide_eq_true h), fun h => h2 (of_decide_eq_false h)⟩
theorem br_ndec {p : Prop} [Decidable p] {A B : Prop} (h1 : ¬ p → A) (h2 : p → B) : ((!decide p) = true → A) ∧ ((!decide p) = false → B) := ⟨fun h => h1 (by simpa using h), fun h => h2 (by simpa using h)⟩
theorem br_t {A B : Prop} (h1 : A) : (true = true → A) ∧ (true = false → B) := ⟨fun _ => h1, fun h => (Bool.noConfusion h)⟩
theorem br_f {A B : Prop} (h1 : B) : (false = true → A) ∧ (false = false → B) := ⟨fun h => (Bool.noConfusion h), fun _ => h1⟩
theorem br_not {b : Bool} {A B : Prop} (h : (b = true → B) ∧ (b = false → A)) : ((!b) = true → A) ∧ ((!b) = false → B) := by cases b <;> simpa using h
variable {QS : Out → VEnv → Prop}
@[irreducible] def seqQ (g : SV1) (QS : Out → VEnv → Prop) (X : Exc → VEnv → Prop) : Out → VEnv → Prop
  | .nx, e => Wp g e QS X
  | o, e => QS o e
theorem seq_nx (h : Wp g env QS X) : seqQ g QS X .nx env := by unfold seqQ; exact h
theorem seq_ret {v : O} (h : QS (.ret v) env) : seqQ g QS X (.ret v) env := by unfold seqQ; exact h
theorem seq_brk (h : QS .brk env) : seqQ g QS X .brk env := by unfold seqQ; exact h
theorem seq_cnt (h : QS .cnt env) : seqQ g QS X .cnt env := by unfold seqQ; exact h
theorem Wp_seq (h : Wp f env (seqQ g QS X) X) : Wp (sSeq f g) env QS X :=
  Wp_bind (Wp_mono h (fun o e h => by unfold seqQ at h; cases o <;> first | exact h | exact Wp_ret h) fun _ _ h => h)
theorem Wp_next (h : QS .nx env) : Wp sNext env QS X := Wp_ret h
theorem Wp_brk (h : QS .brk env) : Wp sBreak env QS X := Wp_ret h
theorem Wp_cnt (h : QS .cnt env) : Wp sCont env QS X := Wp_ret h
theorem Wp_drop (h : Wp a env (fun _ e => QS .nx e) X) : Wp (sDrop a) env QS X := Wp_bind (Wp_mono h (fun _ _ h => Wp_ret h) fun _ _ h => h)
theorem Wp_if {c : M Bool} (h : Wp c env (fun t e => (t = true → Wp f e QS X) ∧ (t = false → Wp g e QS X)) X) : Wp (sIf c f g) env QS X :=
  Wp_bind (Wp_mono h (fun t e h => by
    cases t with
    | true => exact h.1 rfl
    | false => exact h.2 rfl) fun _ _ h => h)
@[irreducible] def asgQ (i : Nat) (QS : Out → VEnv → Prop) (r : R) (e : VEnv) : Prop := ∃ x e1 e2, Settle r e x e1 ∧ Upd e1 i (.loc x) e2 ∧ QS .nx e2
theorem Wp_asg (h : Wp a env (asgQ i QS) X) : Wp (sAsg (.name i) a) env QS X :=
  Wp_bind (Wp_mono h (fun r e h => by
    unfold asgQ at h
    obtain ⟨x, e1, e2, h1, h2, q⟩ := h
    unfold Wp
    simp only [h1.eq, M.liftE, Tg.set, h2.eq, Option.map_some]
    exact q) fun _ _ h => h)
theorem asg_o {e2 : VEnv} (h : Upd env i (.loc x) e2) (q : QS .nx e2) : asgQ i QS (.o x) env := by unfold asgQ; exact ⟨x, env, e2, .o, h, q⟩
theorem asg_b {j : Nat} {e2 : VEnv} {y : O} (h0 : env[j]? = some (.loc y)) (h : Upd env j (.loc (.val y.data)) e1) (h2 : Upd e1 i (.loc (.val y.data)) e2) (q : QS .nx e2) : asgQ i QS (.b j) env := by unfold asgQ; exact ⟨_, e1, e2, .b h0 h, h2, q⟩
inductive SetT : Tg → O → VEnv → VEnv → Prop
  | name {i : Nat} {x : O} {e e' : VEnv} : Upd e i (.loc x) e' → SetT (.name i) x e e'
  | tup2 {t1 t2 : Tg} {x x1 x2 : O} {e e1 e2 : VEnv} : x.kids = some [x1, x2] → SetT t1 x1 e e1 → SetT t2 x2 e1 e2 → SetT (.tup [t1, t2]) x e e2
  | tup3 {t1 t2 t3 : Tg} {x x1 x2 x3 : O} {e e1 e2 e3 : VEnv} : x.kids = some [x1, x2, x3] → SetT t1 x1 e e1 → SetT t2 x2 e1 e2 → SetT t3 x3 e2 e3 → SetT (.tup [t1, t2, t3]) x e e3
  | tup4 {t1 t2 t3 t4 : Tg} {x x1 x2 x3 x4 : O} {e e1 e2 e3 e4 : VEnv} : x.kids = some [x1, x2, x3, x4] → SetT t1 x1 e e1 → SetT t2 x2 e1 e2 → SetT t3 x3 e2 e3 → SetT t4 x4 e3 e4 → SetT (.tup [t1, t2, t3, t4]) x e e4
theorem SetT.eq {t : Tg} {x : O} {e e' : VEnv} (h : SetT t x e e') : t.set x e = some e' := by
  induction h with
  | name h => unfold Tg.set; exact h.eq
  | tup2 h _ _ i1 i2 => simp only [Tg.set, h, Tg.sets, i1, i2]
  | tup3 h _ _ _ i1 i2 i3 => simp only [Tg.set, h, Tg.sets, i1, i2, i3]
  | tup4 h _ _ _ _ i1 i2 i3 i4 => simp only [Tg.set, h, Tg.sets, i1, i2, i3, i4]
@[irreducible] def asgT (t : Tg) (QS : Out → VEnv → Prop) (r : R) (e : VEnv) : Prop := ∃ x e1 e2, Settle r e x e1 ∧ SetT t x e1 e2 ∧ QS .nx e2
theorem Wp_asgT {t : Tg} (h : Wp a env (asgT t QS) X) : Wp (sAsg t a) env QS X :=
  Wp_bind (Wp_mono h (fun r e h => by
    unfold asgT at h
    obtain ⟨x, e1, e2, h1, h2, q⟩ := h
    unfold Wp
    simp only [h1.eq, M.liftE, h2.eq, Option.map_some]
    exact q) fun _ _ h => h)
theorem asgT_o {t : Tg} {e2 : VEnv} (h : SetT t x env e2) (q : QS .nx e2) : asgT t QS (.o x) env := by unfold asgT; exact ⟨x, env, e2, .o, h, q⟩
@[irreducible] def retQ (QS : Out → VEnv → Prop) (r : R) (e : VEnv) : Prop := ∃ x e1, r.move e = some (x, e1) ∧ QS (.ret x) e1
theorem Wp_sret (h : Wp a env (retQ QS) X) : Wp (sRet a) env QS X :=
  Wp_bind (Wp_mono h (fun r e h => by
    unfold retQ at h
    obtain ⟨x, e1, h1, q⟩ := h
    unfold Wp
    simp only [h1, Option.map_some]
    exact q) fun _ _ h => h)
theorem ret_o (q : QS (.ret x) env) : retQ QS (.o x) env := by unfold retQ; exact ⟨x, env, rfl, q⟩
theorem ret_b {j : Nat} {y : O} (h0 : env[j]? = some (.loc y)) (h : Upd env j .no e1) (q : QS (.ret y) e1) : retQ QS (.b j) env := by unfold retQ; exact ⟨y, e1, by unfold R.move; simp only [h0, h.set], q⟩
theorem Wp_sretN (q : QS (.ret (.val .non)) env) : Wp sRetN env QS X := Wp_ret q
theorem Wp_augAdd {j : Int} (h0 : env.at i = some (.val (.int j))) (h : Wp a env (fun r e => ∃ k e2, r = .o (.val (.int k)) ∧ Upd e i (.loc (.val (.int (j + k)))) e2 ∧ QS .nx e2) X) : Wp (sAug i fAddI a) env QS X := by
  have : Wp (M.bind a (augV i (.int j) fAddI)) env QS X := Wp_bind (Wp_mono h (fun r e h => by
    obtain ⟨k, e2, rfl, h1, q⟩ := h
    unfold Wp augV
    simp only [R.data, R.own, Option.map_some, O.data, fAddI, M.liftE, h1.eq]
    exact q) fun _ _ h => h)
  unfold Wp sAug at *
  simp only [h0]
  exact this
theorem onList_eq {e1 : VEnv} {os os' : List O} {f : List O → Option (List O)} (h : env.at i = some (.lst os)) (hf : f os = some os') (p : Put env i (.lst os') e1) : onList i env f = some e1 := by
  unfold onList
  simp only [h, hf, Option.map_some, p.eq]
theorem Wp_setIx (h : Wp a env (fun r e => isLst (VEnv.at e i) = true ∧ Wp b e (fun q e' => ∃ x e1 k os n e2, Settle r e' x e1 ∧ q = .o (.val (.int k)) ∧ e1.at i = some (.lst os) ∧ ixN' os.length k = some n ∧ Put e1 i (.lst (os.set n x)) e2 ∧ QS .nx e2) X) X) : Wp (sSetIx i a b) env QS X :=
  Wp_bind (Wp_mono h (fun r e h => by
    obtain ⟨hl, h⟩ := h
    refine Wp_eq (if_pos hl) ?_
    exact Wp_bind (Wp_mono h (fun q e' h => by
      obtain ⟨x, e1, k, os, n, e2, h1, rfl, h2, h3, h4, q⟩ := h
      unfold Wp
      have : onList i e1 (fun os => (ixN' os.length k).map fun n => os.set n x) = some e2 := onList_eq h2 (by simp only [h3, Option.map_some]) h4
      simp only [h1.eq, M.liftE, this, Option.map_some]
      exact q) fun _ _ h => h)) fun _ _ h => h)
theorem Wp_augIx {os : List O} {k x : Int} (hl : env.at i = some (.lst os)) (h : Wp b env (fun q e => ∃ k x, q = .o (.val (.int k)) ∧ 0 ≤ k ∧ k < 2 ^ 62 ∧ itemAt i k e = some (.int x) ∧ Wp a e (fun r e' => ∃ y os' n e2, r = .o (.val (.int y)) ∧ e'.at i = some (.lst os') ∧ ixN' os'.length k = some n ∧ Put e' i (.lst (os'.set n (.val (.int (x + y))))) e2 ∧ QS .nx e2) X) X) : Wp (sAugIx i b fAddI a) env QS X := by
  have hl' : isLst (VEnv.at env i) = true := by rw [hl]; rfl
  refine Wp_eq (m' := M.bind b _) (env' := env) (by unfold sAugIx; exact if_pos hl') ?_
  exact Wp_bind (Wp_mono h (fun q e h => by
    obtain ⟨k, x, rfl, hk1, hk2, hx, h⟩ := h
    refine Wp_eq (m' := M.bind a (augEnd i k (.int x) fAddI)) (env' := e) (by simp only [hk1, hk2, and_self, if_true, hx]) ?_
    exact Wp_bind (Wp_mono h (fun r e' h => by
      obtain ⟨y, os', n, e2, rfl, h2, h3, h4, q⟩ := h
      have : onList i e' (fun os => (ixN' os.length k).map fun n => os.set n (.val (.int (x + y)))) = some e2 := onList_eq h2 (by simp only [h3, Option.map_some]) h4
      unfold Wp augEnd
      simp only [R.data, R.own, Option.map_some, O.data, fAddI, M.liftE, this]
      exact q) fun _ _ h => h)) fun _ _ h => h)
theorem Wp_append (hl : isLst (VEnv.at env i) = true) (h : Wp a env (fun r e => ∃ x e1 os e2, Settle r e x e1 ∧ e1.at i = some (.lst os) ∧ os.length < maxLen ∧ Put e1 i (.lst (os ++ [x])) e2 ∧ Q (.o (.val .non)) e2) X) : Wp (eLm i (eArgs [a]) (lmAppend i)) env Q X := by
  refine Wp_eq (m' := eOp (lmAppend i) (eArgs [a])) (env' := env) (by unfold eLm; exact if_pos hl) ?_
  refine Wp_op (Wp_cons (Wp_mono h (fun r e h => Wp_nil ?_) fun _ _ h => h))
  obtain ⟨x, e1, os, e2, h1, h2, h3, h4, q⟩ := h
  refine Ops_mk ?_ q
  unfold lmAppend
  have : onList i e1 (fun os => if os.length < maxLen then some (os ++ [x]) else none) = some e2 := onList_eq h2 (if_pos h3) h4
  simp only [h1.eq, this, Option.map_some]
inductive Args : List Bool → List R → VEnv → List O → Prop
  | n {e : VEnv} : Args [] [] e []
  | t {ms : List Bool} {r : R} {rs : List R} {e : VEnv} {x : O} {os : List O} : r.own e = some x → Args ms rs e os → Args (true :: ms) (r :: rs) e (x :: os)
  | fv {ms : List Bool} {rs : List R} {e : VEnv} {d : D} {os : List O} : Args ms rs e os → Args (false :: ms) (.o (.val d) :: rs) e (.val d :: os)
  | f {ms : List Bool} {r : R} {rs : List R} {e : VEnv} {d : D} {os : List O} : r.data e = some d → Args ms rs e os → Args (false :: ms) (r :: rs) e (.val d :: os)
theorem Args.eq {ms : List Bool} {rs : List R} {e : VEnv} {os : List O} (h : Args ms rs e os) : argO ms rs e = some os := by
  induction h with
  | n => rfl
  | t h _ ih => simp [argO, h, ih]
  | fv _ ih => simp [argO, ih, R.data, R.own, O.data]
  | f h _ ih => simp [argO, h, ih]
inductive Puts : List Bool → List R → List O → VEnv → VEnv → Prop
  | n {e : VEnv} : Puts [] [] [] e e
  | f {ms : List Bool} {r : R} {rs : List R} {x : O} {os : List O} {e e' : VEnv} : Puts ms rs os e e' → Puts (false :: ms) (r :: rs) (x :: os) e e'
  | o {m : Bool} {ms : List Bool} {y : O} {rs : List R} {x : O} {os : List O} {e e' : VEnv} : Puts ms rs os e e' → Puts (m :: ms) (.o y :: rs) (x :: os) e e'
  | t {ms : List Bool} {i : Nat} {rs : List R} {x : O} {os : List O} {e e1 e' : VEnv} : Put e i x e1 → Puts ms rs os e1 e' → Puts (true :: ms) (.b i :: rs) (x :: os) e e'
theorem Puts.eq {ms : List Bool} {rs : List R} {os : List O} {e e' : VEnv} (h : Puts ms rs os e e') : putMuts ms rs os e = e' := by
  induction h with
  | n => rfl
  | @f _ r _ _ _ _ _ _ ih => cases r <;> exact ih
  | @o m _ _ _ _ _ _ _ _ ih => cases m <;> exact ih
  | t h _ ih => unfold putMuts; simp only [h.eq]; exact ih
@[irreducible] def callQ (ms : List Bool) (gf : Fn) (Q : R → VEnv → Prop) (X : Exc → VEnv → Prop) (rs : List R) (e : VEnv) : Prop :=
  ∃ os, Args ms rs e os ∧ okSlots ms rs = true ∧ FS gf os (fun x os' => ((borSlots ms rs).isEmpty || (FRes.ret x os').clean ms) = true ∧ ∃ e', Puts ms rs os' e e' ∧ Q (.o x) e')
    (fun x os' => ((borSlots ms rs).isEmpty || (FRes.ex x os').clean ms) = true ∧ ∃ e', Puts ms rs os' e e' ∧ X x e')
theorem Wp_call {ms : List Bool} {gf : Fn} {as : List EV} (h : Wp (eArgs as) env (callQ ms gf Q X) X) : Wp (eCall ms gf as) env Q X :=
  Wp_bind (Wp_mono h (fun rs e h => by
    unfold callQ at h
    obtain ⟨os, h1, h2, h3⟩ := h
    unfold Wp callE
    simp only [h1.eq]
    unfold FS at h3
    cases hg : gf os with
    | none => rw [hg] at h3; exact h3.elim
    | some r =>
      rw [hg] at h3
      cases r with
      | ret x os' =>
        obtain ⟨h4, e', h5, q⟩ := h3
        simp only [h2, h4, and_self, if_true, FRes.out, h5.eq]
        exact q
      | ex x os' =>
        obtain ⟨h4, e', h5, q⟩ := h3
        simp only [h2, h4, and_self, if_true, FRes.out, h5.eq]
        exact q) fun _ _ h => h)
inductive Outs : List Bool → List O → VEnv → List O → Prop
  | n {e : VEnv} : Outs [] [] e []
  | t {ms : List Bool} {x y : O} {os os' : List O} {e : VEnv} : Outs ms os e os' → Outs (true :: ms) (x :: os) (.par y :: e) (y :: os')
  | f {ms : List Bool} {x : O} {c : Cell} {os os' : List O} {e : VEnv} : Outs ms os e os' → Outs (false :: ms) (x :: os) (c :: e) (x :: os')
theorem Outs.eq {ms : List Bool} {os os' : List O} {e : VEnv} (h : Outs ms os e os') : outs ms os e = some os' := by
  induction h with
  | n => rfl
  | t _ ih => simp [outs, ih]
  | f _ ih => simp [outs, ih]
@[irreducible] def fnQ (ms : List Bool) (os : List O) (Q : O → List O → Prop) : Out → VEnv → Prop
  | .ret x, e => ∃ os', Outs ms os e os' ∧ Q x os'
  | .nx, e => ∃ os', Outs ms os e os' ∧ Q (.val .non) os'
  | _, _ => False
inductive Nos : Nat → VEnv → Prop
  | z : Nos 0 []
  | s {n : Nat} {e : VEnv} : Nos n e → Nos (n + 1) (.no :: e)
inductive Init : List Bool → List O → Nat → VEnv → Prop
  | n {n : Nat} {e : VEnv} : Nos n e → Init [] [] n e
  | t {ms : List Bool} {x : O} {os : List O} {n : Nat} {e : VEnv} : Init ms os n e → Init (true :: ms) (x :: os) n (.par x :: e)
  | f {ms : List Bool} {d : D} {os : List O} {n : Nat} {e : VEnv} : Init ms os n e → Init (false :: ms) (.val d :: os) n (.loc (.val d) :: e)
theorem Nos.eq {n : Nat} {e : VEnv} (h : Nos n e) : List.replicate n Cell.no = e := by
  induction h with
  | z => rfl
  | s _ ih => rw [List.replicate_succ, ih]
theorem Init.eq {ms : List Bool} {os : List O} {n : Nat} {e : VEnv} (h : Init ms os n e) : initEnv ms os n = e ∧ argsOk ms os = true := by
  induction h with
  | n h => exact ⟨h.eq, rfl⟩
  | t _ ih => exact ⟨by rw [initEnv, ih.1], by rw [argsOk, ih.2]⟩
  | f _ ih => exact ⟨by rw [initEnv, ih.1], by rw [argsOk, ih.2]⟩
theorem FS_fn {ms : List Bool} {n : Nat} {body : SV1} {os : List O} {QF : O → List O → Prop} {XF : Exc → List O → Prop} (ha : argsOk ms os = true) (h : Wp body (initEnv ms os n) (fnQ ms os QF) (fun x e => ∃ os', Outs ms os e os' ∧ XF x os')) : FS (fnSem ms n body) os QF XF := by
  unfold FS fnSem
  simp only [ha, if_true]
  unfold Wp at h
  cases hb : body (initEnv ms os n) with
  | none => rw [hb] at h; exact h.elim
  | some r =>
    rw [hb] at h
    cases r with
    | ex x e => obtain ⟨os', h1, h2⟩ := h; simp only [h1.eq, Option.map_some]; exact h2
    | ok o e =>
      unfold fnQ at h
      cases o with
      | nx => obtain ⟨os', h1, h2⟩ := h; simp only [h1.eq, Option.map_some]; exact h2
      | brk => exact h.elim
      | cnt => exact h.elim
      | ret v => obtain ⟨os', h1, h2⟩ := h; simp only [h1.eq, Option.map_some]; exact h2
theorem FS_fnI {ms : List Bool} {n : Nat} {body : SV1} {os : List O} {env : VEnv} {QF : O → List O → Prop} {XF : Exc → List O → Prop} (hi : Init ms os n env) (h : Wp body env (fnQ ms os QF) (fun x e => ∃ os', Outs ms os e os' ∧ XF x os')) : FS (fnSem ms n body) os QF XF :=
  FS_fn hi.eq.2 (by rw [hi.eq.1]; exact h)
theorem fn_ret {ms : List Bool} {os os' : List O} {Q : O → List O → Prop} {x : O} (h : Outs ms os env os') (q : Q x os') : fnQ ms os Q (.ret x) env := by unfold fnQ; exact ⟨os', h, q⟩
theorem fn_nx {ms : List Bool} {os os' : List O} {Q : O → List O → Prop} (h : Outs ms os env os') (q : Q (.val .non) os') : fnQ ms os Q .nx env := by unfold fnQ; exact ⟨os', h, q⟩
@[irreducible] def forQ (N : VEnv → Prop) (QS : Out → VEnv → Prop) : Out → VEnv → Prop
  | .nx, e => N e
  | .cnt, e => N e
  | .brk, e => QS .nx e
  | .ret x, e => QS (.ret x) e
theorem for_nx {N : VEnv → Prop} (h : N env) : forQ N QS .nx env := by unfold forQ; exact h
theorem for_cnt {N : VEnv → Prop} (h : N env) : forQ N QS .cnt env := by unfold forQ; exact h
theorem for_brk {N : VEnv → Prop} (h : QS .nx env) : forQ N QS .brk env := by unfold forQ; exact h
theorem for_ret {N : VEnv → Prop} {v : O} (h : QS (.ret v) env) : forQ N QS (.ret v) env := by unfold forQ; exact h
theorem Wp_forL {t : Tg} (I : List D → VEnv → Prop) (hs : ∀ d ds e, I (d :: ds) e → ∃ e1, SetT t (.val d) e e1 ∧ Wp f e1 (forQ (I ds) QS) X) (he : ∀ e, I [] e → QS .nx e) : ∀ (ds : List D) (env : VEnv), I ds env → Wp (forL t f ds) env QS X
  | [], env, h => Wp_ret (he env h)
  | d :: ds, env, h => by
    obtain ⟨e1, h1, h2⟩ := hs d ds env h
    unfold Wp forL
    simp only [h1.eq]
    unfold Wp at h2
    cases hb : f e1 with
    | none => rw [hb] at h2; exact h2.elim
    | some r =>
      rw [hb] at h2
      cases r with
      | ex x e => exact h2
      | ok o e =>
        unfold forQ at h2
        have ih := Wp_forL I hs he ds e
        unfold Wp at ih
        cases o with
        | nx => exact ih h2
        | brk => exact h2
        | cnt => exact ih h2
        | ret v => exact h2
theorem Wp_for {t : Tg} {it : M (List D)} (h : Wp it env (fun ds e => Wp (forL t f ds) e QS X) X) : Wp (sFor it t f) env QS X := Wp_bind h
theorem rangeD_step {lo hi : Int} (h : lo < hi) : rangeD lo hi = .int lo :: rangeD (lo + 1) hi := by
  unfold rangeD
  have : (hi - lo).toNat = (hi - (lo + 1)).toNat + 1 := by omega
  rw [this, List.range_succ_eq_map, List.map_cons, List.map_map]
  congr 1
  · simp
  · apply List.map_congr_left
    intro k _
    show D.int (lo + ((k + 1 : Nat) : Int)) = D.int (lo + 1 + k)
    congr 1
    omega
theorem rangeD_end {lo hi : Int} (h : hi ≤ lo) : rangeD lo hi = [] := by
  unfold rangeD
  have : (hi - lo).toNat = 0 := by omega
  rw [this]; rfl
theorem Wp_forR {t : Tg} (hi : Int) (I : Int → VEnv → Prop) (hs : ∀ k e, k < hi → I k e → ∃ e1, SetT t (.val (.int k)) e e1 ∧ Wp f e1 (forQ (I (k + 1)) QS) X) (he : ∀ k e, hi ≤ k → I k e → QS .nx e) (lo : Int) (env : VEnv) (h0 : I lo env) : Wp (forL t f (rangeD lo hi)) env QS X := by
  refine Wp_forL (fun ds e => ∃ k, ds = rangeD k hi ∧ I k e) (fun d ds e h => ?_) (fun e h => ?_) _ env ⟨lo, rfl, h0⟩
  · obtain ⟨k, hd, hI⟩ := h
    by_cases hk : k < hi
    · rw [rangeD_step hk] at hd
      cases hd
      obtain ⟨e1, h1, h2⟩ := hs k e hk hI
      refine ⟨e1, h1, Wp_mono h2 (fun o e2 h => ?_) fun _ _ h => h⟩
      unfold forQ at h ⊢
      cases o with
      | nx => exact ⟨_, rfl, h⟩
      | cnt => exact ⟨_, rfl, h⟩
      | brk => exact h
      | ret v => exact h
    · rw [rangeD_end (by omega)] at hd; cases hd
  · obtain ⟨k, hd, hI⟩ := h
    by_cases hk : k < hi
    · rw [rangeD_step hk] at hd; cases hd
    · exact he k e (by omega) hI
variable {QD : List D → VEnv → Prop}
theorem Wp_range1 (h : Wp a env (fun r e => ∃ n, r = .o (.val (.int n)) ∧ bigI n = true ∧ QD (rangeD 0 n) e) X) : Wp (itRange1 a) env QD X :=
  Wp_bind (Wp_mono h (fun r e h => by
    obtain ⟨n, rfl, h1, q⟩ := h
    simp only [h1, if_true]
    exact Wp_ret q) fun _ _ h => h)
theorem Wp_range2 (h : Wp a env (fun r e => Wp b e (fun s e' => ∃ l n, r = .o (.val (.int l)) ∧ s = .o (.val (.int n)) ∧ bigI l = true ∧ bigI n = true ∧ QD (rangeD l n) e') X) X) : Wp (itRange2 a b) env QD X :=
  Wp_bind (Wp_mono h (fun r e h => Wp_bind (Wp_mono h (fun s e' h => by
    obtain ⟨l, n, rfl, rfl, h1, h2, q⟩ := h
    simp only [h1, h2, Bool.and_self, if_true]
    exact Wp_ret q) fun _ _ h => h)) fun _ _ h => h)
theorem Wp_itList (h : Wp a env (fun r e => ∃ x e1 ds, Settle r e x e1 ∧ (x.data = .lst ds ∨ x.data = .tup ds) ∧ QD ds e1) X) : Wp (itList a) env QD X :=
  Wp_bind (Wp_mono h (fun r e h => by
    obtain ⟨x, e1, ds, h1, h2, q⟩ := h
    unfold Wp
    simp only [h1.eq]
    rcases h2 with h2 | h2 <;> (rw [h2]; exact q)) fun _ _ h => h)
inductive Hide : List Nat → VEnv → VEnv → Prop
  | n {e : VEnv} : Hide [] e e
  | c {i : Nat} {is : List Nat} {e e1 e2 : VEnv} : Hide is e e1 → Upd e1 i .no e2 → Hide (i :: is) e e2
theorem Hide.eq {is : List Nat} {e e' : VEnv} (h : Hide is e e') : hide is e = e' := by
  induction h with
  | n => rfl
  | c _ h2 ih => unfold hide; rw [ih, h2.set]
inductive Back : List Nat → VEnv → VEnv → VEnv → Prop
  | n {old e : VEnv} : Back [] old e e
  | c {i : Nat} {is : List Nat} {old e e1 e2 : VEnv} {cl : Cell} : old[i]? = some cl → Back is old e e1 → Upd e1 i cl e2 → Back (i :: is) old e e2
theorem Back.eq {is : List Nat} {old e e' : VEnv} (h : Back is old e e') : back is old e = e' := by
  induction h with
  | n => rfl
  | c h0 _ h2 ih => unfold back; simp only [h0, ih, h2.set]
theorem Wp_compL {is : List Nat} {t : Tg} {c : M Bool} {ee : EV} {QL : List O → VEnv → Prop} (I : List D → List O → VEnv → Prop)
    (hs : ∀ d ds acc e, I (d :: ds) acc e → ∃ e1, SetT t (.val d) e e1 ∧ Wp c e1 (fun b e2 => (b = true → Wp ee e2 (fun r e3 => ∃ x e4 e5, Settle r e3 x e4 ∧ acc.length < maxLen ∧ Hide is e4 e5 ∧ I ds (acc ++ [x]) e5) (fun _ _ => False)) ∧ (b = false → ∃ e5, Hide is e2 e5 ∧ I ds acc e5)) (fun _ _ => False))
    (he : ∀ acc e, I [] acc e → QL acc e) : ∀ (ds : List D) (acc : List O) (env : VEnv), I ds acc env → Wp (compL is t c ee ds acc) env QL (fun _ _ => False)
  | [], acc, env, h => Wp_ret (he acc env h)
  | d :: ds, acc, env, h => by
    obtain ⟨e1, h1, h2⟩ := hs d ds acc env h
    refine Wp_eq (m' := M.bind c _) (env' := e1) (by unfold compL; simp only [h1.eq]; rfl) ?_
    refine Wp_bind (Wp_mono h2 (fun b e2 h => ?_) fun _ _ h => h)
    cases b with
    | true =>
      simp only [if_true]
      refine Wp_bind (Wp_bind (Wp_mono (h.1 rfl) (fun r e3 h => ?_) fun _ _ h => h))
      obtain ⟨x, e4, e5, h3, h4, h5, h6⟩ := h
      refine Wp_lift h3.eq ?_
      simp only [h4, if_true]
      have ih := Wp_compL I hs he ds _ e5 h6
      unfold Wp at ih ⊢
      simp only [h5.eq]
      exact ih
    | false =>
      obtain ⟨e5, h5, h6⟩ := h.2 rfl
      have ih := Wp_compL I hs he ds _ e5 h6
      unfold Wp at ih ⊢
      simp only [Bool.false_eq_true, if_false, h5.eq]
      exact ih
theorem Wp_comp {is : List Nat} {it : M (List D)} {t : Tg} {c : M Bool} {ee : EV} (h : Wp it env (fun ds e => ∃ e0, Hide is e e0 ∧ Wp (compL is t c ee ds []) e0 (fun os e2 => ∃ e3, Back is e e2 e3 ∧ Q (.o (.lst os)) e3) (fun _ _ => False)) X) : Wp (eComp is it t c ee) env Q X :=
  Wp_bind (Wp_mono h (fun ds e h => by
    obtain ⟨e0, h0, h⟩ := h
    unfold Wp at *
    simp only [h0.eq]
    cases hc : compL is t c ee ds [] e0 with
    | none => rw [hc] at h; exact h.elim
    | some r =>
      rw [hc] at h
      cases r with
      | ex x e => exact h.elim
      | ok os e2 =>
        obtain ⟨e3, h1, q⟩ := h
        simp only [h1.eq]
        exact q) fun _ _ h => h)
theorem Wp_yes (h : QB true env) : Wp yes env QB X := Wp_ret h
theorem Wp_join {s : List Nat} (h : Wp a env (fun r e => r = .o (.val (.str s)) ∧ Wp b e (fun r2 e2 => ∃ ys : List (List Nat), r2.data e2 = some (.lst (ys.map .str)) ∧ (ys.map List.length).sum + ys.length * s.length ≤ maxLen ∧ Q (.o (.val (.str (joinD s ys)))) e2) X) X) : Wp (eRecv isStrR a [b] (opS fJoin)) env Q X :=
  Wp_bind (Wp_mono h (fun r e h => by
    obtain ⟨rfl, h⟩ := h
    refine Wp_eq (if_pos rfl) ?_
    refine Wp_bind (Wp_cons (Wp_mono h (fun r2 e2 h => Wp_nil ?_) fun _ _ h => h))
    obtain ⟨ys, h1, h2, q⟩ := h
    have ha : ∀ ys : List (List Nat), allStr (ys.map .str) = some ys := fun ys => by
      induction ys with
      | nil => rfl
      | cons y ys ih => rw [List.map_cons, allStr, ih]; rfl
    refine Wp_lift (e1 := e2) (a := .o (.val (.str (joinD s ys)))) ?_ q
    unfold opS
    have h0 : (R.o (.val (.str s))).data e2 = some (.str s) := rfl
    simp [h0, h1, fJoin, ha, h2]) fun _ _ h => h)
end
end VS
namespace VS
theorem small_fmod {x m : Int} (h : 0 < m) (h2 : m ≤ 2 ^ 64) : small64 (x.fmod m) = true := by
  have h3 := Int.fmod_nonneg_of_pos x h
  have h4 := Int.fmod_lt_of_pos x h
  unfold small64
  simp only [decide_eq_true_eq]
  omega
theorem small_of {x : Int} (h : -(2 ^ 64) < x) (h2 : x < 2 ^ 64) : small64 x = true := by
  unfold small64
  simp only [decide_eq_true_eq]
  exact ⟨h, h2⟩
structure Hand where
  d : Int
  p : Int
  cs : List Int
  hd : 0 ≤ d
  hc : cs ≠ []
def Hand.o (h : Hand) : O := .lst [.val (.int h.d), .val (.int h.p), oLst (h.cs.map .int)]
theorem ixN_fmod {n : Nat} (h : 0 < n) (i : Int) : ixN' n (i.fmod (n : Int)) = some (i.fmod (n : Int)).toNat ∧ (i.fmod (n : Int)).toNat < n := by
  have h1 : 0 ≤ i.fmod (n : Int) := Int.fmod_nonneg_of_pos i (by omega)
  have h2 : i.fmod (n : Int) < n := Int.fmod_lt_of_pos i (by omega)
  unfold ixN'
  rw [if_pos h1, if_pos h2]
  exact ⟨rfl, by omega⟩
theorem atD_fmod {α : Type} (xs : List α) (h : xs ≠ []) (i : Int) : ∃ y, atD xs (i.fmod (xs.length : Int)) = some y ∧ y ∈ xs := by
  have h0 : 0 < xs.length := List.length_pos_iff.mpr h
  obtain ⟨h1, h2⟩ := ixN_fmod h0 i
  unfold atD
  rw [h1, Option.bind_some, List.getElem?_eq_getElem h2]
  exact ⟨_, rfl, List.getElem_mem h2⟩
theorem atD_map {α β : Type} (f : α → β) (xs : List α) (i : Int) : atD (xs.map f) i = (atD xs i).map f := by
  unfold atD
  rw [List.length_map]
  cases ixN' xs.length i with
  | none => rfl
  | some j => simp
theorem atD_nat {α : Type} {xs : List α} {i : Int} (h : 0 ≤ i) (h2 : i < xs.length) : ∃ y, atD xs i = some y ∧ xs[i.toNat]? = some y ∧ y ∈ xs := by
  unfold atD ixN'
  rw [if_pos h, if_pos h2, Option.bind_some, List.getElem?_eq_getElem (by omega)]
  exact ⟨_, rfl, rfl, List.getElem_mem _⟩
end VS
namespace VS
theorem Wp_any {a : EV} {env : VEnv} {QD : List D → VEnv → Prop} {X : Exc → VEnv → Prop} (h : Wp a env (fun r e => (∃ x e1 ds, Settle r e x e1 ∧ (x.data = .lst ds ∨ x.data = .tup ds) ∧ QD ds e1) ∨ (∃ s, r = .o (.val (.str s)) ∧ QD (s.map fun k => .str [k]) e)) X) : Wp (itAny a) env QD X := by
  unfold Wp at *
  unfold itAny M.orElse itList itStr M.bind
  cases ha : a env with
  | none => rw [ha] at h; exact h
  | some r =>
    rw [ha] at h
    cases r with
    | ex x e => exact h
    | ok r e =>
      rcases h with ⟨x, e1, ds, h1, h2, q⟩ | ⟨s, rfl, q⟩
      · simp only [h1.eq]
        rcases h2 with h2 | h2 <;> (rw [h2]; exact q)
      · exact q
section
variable {env e1 : VEnv} {X : Exc → VEnv → Prop} {i : Nat} {d : D} {o x : O} {a b : EV} {Q : R → VEnv → Prop}
theorem callQ_mk {ms : List Bool} {gf : Fn} {rs : List R} {os : List O} (ha : Args ms rs env os) (ok : okSlots ms rs = true) (hb : borSlots ms rs = []) (h : FS gf os (fun x os' => ∃ e', Puts ms rs os' env e' ∧ Q (.o x) e') (fun x os' => ∃ e', Puts ms rs os' env e' ∧ X x e')) : callQ ms gf Q X rs env := by
  unfold callQ
  refine ⟨os, ha, ok, FS_mono h (fun x os' h => ⟨by rw [hb]; rfl, h⟩) fun x os' h => ⟨by rw [hb]; rfl, h⟩⟩
theorem callQ_mkB {ms : List Bool} {gf : Fn} {rs : List R} {os : List O} (ha : Args ms rs env os) (ok : okSlots ms rs = true) (h : FS gf os (fun x os' => (FRes.ret x os').clean ms = true ∧ ∃ e', Puts ms rs os' env e' ∧ Q (.o x) e') (fun x os' => (FRes.ex x os').clean ms = true ∧ ∃ e', Puts ms rs os' env e' ∧ X x e')) : callQ ms gf Q X rs env := by
  unfold callQ
  refine ⟨os, ha, ok, FS_mono h (fun x os' h => ⟨by rw [h.1, Bool.or_true], h.2⟩) fun x os' h => ⟨by rw [h.1, Bool.or_true], h.2⟩⟩
end
theorem datas_val (ds : List D) : datas (ds.map .val) = ds := by
  induction ds with
  | nil => rfl
  | cons d ds ih => rw [List.map_cons, datas, ih]; rfl
theorem oLst_data (ds : List D) : (oLst ds).data = .lst ds := by rw [oLst, O.data, datas_val]
theorem canEs_iff (ds : List D) : canEs ds = true ↔ ∀ d ∈ ds, d.canE = true := by
  induction ds with
  | nil => simp [canEs]
  | cons d ds ih => simp [canEs, ih]
theorem deps_le (ds : List D) (n : Nat) : deps ds ≤ n ↔ ∀ d ∈ ds, d.dep ≤ n := by
  induction ds with
  | nil => simp [deps]
  | cons d ds ih => simp [deps, ih, Nat.max_le]
theorem okE_int (i : Int) : okE (.int i) = true := rfl
theorem okE_ints (ns : List Int) : okE (.lst (ns.map .int)) = true := by
  unfold okE
  rw [Bool.and_eq_true, decide_eq_true_eq]
  refine ⟨(canEs_iff _).mpr fun d hd => ?_, ?_⟩
  · obtain ⟨n, _, rfl⟩ := List.mem_map.mp hd; rfl
  · show deps (ns.map .int) + 1 ≤ 60
    have : deps (ns.map .int) ≤ 0 := (deps_le _ _).mpr fun d hd => by obtain ⟨n, _, rfl⟩ := List.mem_map.mp hd; exact Nat.le_refl _
    omega
theorem eqDs_nil (xs : List D) : eqDs xs [] = decide (xs = []) := by cases xs <;> simp [eqDs]
end VS
namespace VS
def compQ (is : List Nat) (t : Tg) (c : M Bool) (ee : EV) (Q : R → VEnv → Prop) (ds : List D) (e : VEnv) : Prop := ∃ e0, Hide is e e0 ∧ Wp (compL is t c ee ds []) e0 (fun os e2 => ∃ e3, Back is e e2 e3 ∧ Q (.o (.lst os)) e3) (fun _ _ => False)
theorem Wp_compI {is : List Nat} {it : M (List D)} {t : Tg} {c : M Bool} {ee : EV} {env : VEnv} {Q : R → VEnv → Prop} {X : Exc → VEnv → Prop} (h : Wp it env (compQ is t c ee Q) X) : Wp (eComp is it t c ee) env Q X := Wp_comp h
theorem Wp_compMap {is : List Nat} {t : Tg} {ee : EV} {env : VEnv} {QL : List O → VEnv → Prop} (f : D → D) {ds : List D} (hl : ds.length ≤ maxLen)
    (hs : ∀ d ∈ ds, ∃ e1, SetT t (.val d) env e1 ∧ Wp ee e1 (fun r e3 => r = .o (.val (f d)) ∧ Hide is e3 env) (fun _ _ => False)) (q : QL ((ds.map f).map .val) env) : Wp (compL is t yes ee ds []) env QL (fun _ _ => False) := by
  refine Wp_mono (Wp_compL (QL := fun os e => os = (ds.map f).map .val ∧ e = env) (fun rs acc e => e = env ∧ ∃ ps, ds = ps ++ rs ∧ acc = (ps.map f).map .val) (fun d rs acc e h => ?_) (fun acc e h => ?_) ds [] env ⟨rfl, [], rfl, rfl⟩) (fun os e h => ?_) fun _ _ h => h.elim
  · obtain ⟨rfl, ps, h1, rfl⟩ := h
    obtain ⟨e1, h2, h3⟩ := hs d (by rw [h1]; simp)
    refine ⟨e1, h2, Wp_yes ⟨fun _ => Wp_mono h3 (fun r e3 h => ?_) fun _ _ h => h, fun h => by cases h⟩⟩
    obtain ⟨rfl, h4⟩ := h
    refine ⟨_, e3, e, .o, ?_, h4, rfl, ps ++ [d], by simp [h1], by simp⟩
    have := congrArg List.length h1
    simp at this ⊢
    omega
  · obtain ⟨rfl, ps, h1, rfl⟩ := h
    rw [List.append_nil] at h1
    exact ⟨by rw [h1], rfl⟩
  · obtain ⟨rfl, rfl⟩ := h
    exact q
theorem Wp_compFilter {is : List Nat} {t : Tg} {ee : EV} {c : M Bool} {env : VEnv} {QL : List O → VEnv → Prop} (f : D → D) (p : D → Bool) {ds : List D} (hl : ds.length ≤ maxLen)
    (hs : ∀ d ∈ ds, ∃ e1, SetT t (.val d) env e1 ∧ Wp c e1 (fun b e2 => b = p d ∧ (p d = true → Wp ee e2 (fun r e3 => r = .o (.val (f d)) ∧ Hide is e3 env) (fun _ _ => False)) ∧ (p d = false → Hide is e2 env)) (fun _ _ => False)) (q : QL (((ds.filter p).map f).map .val) env) : Wp (compL is t c ee ds []) env QL (fun _ _ => False) := by
  refine Wp_mono (Wp_compL (QL := fun os e => os = ((ds.filter p).map f).map .val ∧ e = env) (fun rs acc e => e = env ∧ ∃ ps, ds = ps ++ rs ∧ acc = ((ps.filter p).map f).map .val) (fun d rs acc e h => ?_) (fun acc e h => ?_) ds [] env ⟨rfl, [], rfl, rfl⟩) (fun os e h => ?_) fun _ _ h => h.elim
  · obtain ⟨rfl, ps, h1, rfl⟩ := h
    obtain ⟨e1, h2, h3⟩ := hs d (by rw [h1]; simp)
    refine ⟨e1, h2, Wp_mono h3 (fun b e2 h => ?_) fun _ _ h => h⟩
    obtain ⟨rfl, ha, hb⟩ := h
    refine ⟨fun hp => Wp_mono (ha hp) (fun r e3 h => ?_) fun _ _ h => h, fun hp => ⟨e, hb hp, rfl, ps ++ [d], by simp [h1], by simp [hp]⟩⟩
    obtain ⟨rfl, h4⟩ := h
    refine ⟨_, e3, e, .o, ?_, h4, rfl, ps ++ [d], by simp [h1], by simp [hp]⟩
    have h6 := congrArg List.length h1
    have h7 := List.length_filter_le p ps
    simp at h6 ⊢
    omega
  · obtain ⟨rfl, ps, h1, rfl⟩ := h
    rw [List.append_nil] at h1
    exact ⟨by rw [h1], rfl⟩
  · obtain ⟨rfl, rfl⟩ := h
    exact q
theorem Wp_compH {is : List Nat} {t : Tg} {ee : EV} {QL : List O → VEnv → Prop} (E : Hand → VEnv) (P : D → D → Prop) {ds : List D} (hl : ds.length ≤ maxLen) (h : Hand)
    (hs : ∀ d ∈ ds, ∀ h : Hand, ∃ e1, SetT t (.val d) (E h) e1 ∧ Wp ee e1 (fun r e3 => ∃ y h', r = .o (.val y) ∧ P d y ∧ Hide is e3 (E h')) (fun _ _ => False)) (q : ∀ (ys : List D) (h' : Hand), ys.length = ds.length → (∀ (k : Nat) (d y : D), ds[k]? = some d → ys[k]? = some y → P d y) → QL (ys.map .val) (E h')) : Wp (compL is t yes ee ds []) (E h) QL (fun _ _ => False) := by
  refine Wp_mono (Wp_compL (QL := fun os e => ∃ (ys : List D) (h' : Hand), os = ys.map .val ∧ e = E h' ∧ ys.length = ds.length ∧ ∀ (k : Nat) (d y : D), ds[k]? = some d → ys[k]? = some y → P d y) (fun rs acc e => ∃ (ps ys : List D) (h' : Hand), e = E h' ∧ ds = ps ++ rs ∧ acc = ys.map .val ∧ ys.length = ps.length ∧ ∀ (k : Nat) (d y : D), ps[k]? = some d → ys[k]? = some y → P d y) (fun d rs acc e h => ?_) (fun acc e h => ?_) ds [] (E h) ⟨[], [], h, rfl, rfl, rfl, rfl, fun k d y h => by simp at h⟩) (fun os e h => ?_) fun _ _ h => h.elim
  · obtain ⟨ps, ys, h', rfl, h1, rfl, h2, h3⟩ := h
    obtain ⟨e1, h4, h5⟩ := hs d (by rw [h1]; simp) h'
    refine ⟨e1, h4, Wp_yes ⟨fun _ => Wp_mono h5 (fun r e3 h => ?_) fun _ _ h => h, fun h => by cases h⟩⟩
    obtain ⟨y, h'', rfl, hp, hh⟩ := h
    refine ⟨_, e3, E h'', .o, ?_, hh, ps ++ [d], ys ++ [y], h'', rfl, by simp [h1], by simp, by simp [h2], fun k d' y' hd hy => ?_⟩
    · have := congrArg List.length h1
      simp at this ⊢
      omega
    · by_cases hk : k < ps.length
      · rw [List.getElem?_append_left hk] at hd
        rw [List.getElem?_append_left (by omega)] at hy
        exact h3 k d' y' hd hy
      · have : k = ps.length := by
          have := (List.getElem?_eq_some_iff.mp hd).1
          simp at this
          omega
        subst this
        rw [List.getElem?_append_right (Nat.le_refl _), Nat.sub_self] at hd
        rw [← h2, List.getElem?_append_right (Nat.le_refl _), Nat.sub_self] at hy
        cases hd
        cases hy
        exact hp
  · obtain ⟨ps, ys, h', rfl, h1, rfl, h2, h3⟩ := h
    rw [List.append_nil] at h1
    subst h1
    exact ⟨ys, h', rfl, rfl, h2, h3⟩
  · obtain ⟨ys, h', rfl, rfl, h2, h3⟩ := h
    exact q ys h' h2 h3
theorem compQ_map {is : List Nat} {t : Tg} {ee : EV} {env e0 : VEnv} {Q : R → VEnv → Prop} {ds : List D} (f : D → D) (hh : Hide is env e0) (hb : Back is env e0 env) (hl : ds.length ≤ maxLen)
    (hs : ∀ d ∈ ds, ∃ e1, SetT t (.val d) e0 e1 ∧ Wp ee e1 (fun r e3 => r = .o (.val (f d)) ∧ Hide is e3 e0) (fun _ _ => False)) (q : Q (.o (oLst (ds.map f))) env) : compQ is t yes ee Q ds env :=
  ⟨e0, hh, Wp_compMap f hl hs ⟨env, hb, q⟩⟩
theorem compQ_filter {is : List Nat} {t : Tg} {c : M Bool} {ee : EV} {env e0 : VEnv} {Q : R → VEnv → Prop} {ds : List D} (f : D → D) (p : D → Bool) (hh : Hide is env e0) (hb : Back is env e0 env) (hl : ds.length ≤ maxLen)
    (hs : ∀ d ∈ ds, ∃ e1, SetT t (.val d) e0 e1 ∧ Wp c e1 (fun b e2 => b = p d ∧ (p d = true → Wp ee e2 (fun r e3 => r = .o (.val (f d)) ∧ Hide is e3 e0) (fun _ _ => False)) ∧ (p d = false → Hide is e2 e0)) (fun _ _ => False)) (q : Q (.o (oLst ((ds.filter p).map f))) env) : compQ is t c ee Q ds env :=
  ⟨e0, hh, Wp_compFilter f p hl hs ⟨env, hb, q⟩⟩
theorem compQ_hand {is : List Nat} {t : Tg} {ee : EV} {Q : R → VEnv → Prop} (E E0 : Hand → VEnv) (P : D → D → Prop) {ds : List D} (hh : ∀ h, Hide is (E h) (E0 h)) (hb : ∀ h h', Back is (E h) (E0 h') (E h')) (hl : ds.length ≤ maxLen) {h : Hand}
    (hs : ∀ d ∈ ds, ∀ h : Hand, ∃ e1, SetT t (.val d) (E0 h) e1 ∧ Wp ee e1 (fun r e3 => ∃ y h', r = .o (.val y) ∧ P d y ∧ Hide is e3 (E0 h')) (fun _ _ => False)) (q : ∀ (ys : List D) (h' : Hand), ys.length = ds.length → (∀ (k : Nat) (d y : D), ds[k]? = some d → ys[k]? = some y → P d y) → Q (.o (oLst ys)) (E h')) : compQ is t yes ee Q ds (E h) :=
  ⟨E0 h, hh h, Wp_compH E0 P hl h hs fun ys h' l p => ⟨E h', hb h h', q ys h' l p⟩⟩
theorem br_b {b : Bool} {A B : Prop} (h1 : b = true → A) (h2 : b = false → B) : (b = true → A) ∧ (b = false → B) := ⟨h1, h2⟩
end VS
namespace VS
theorem cutD_len {α : Type} (xs : List α) (lo hi : Option Int) : (cutD xs lo hi).length ≤ xs.length := by
  unfold cutD
  rw [List.length_take, List.length_drop]
  omega
theorem cutD_mem {α : Type} {xs : List α} {lo hi : Option Int} {x : α} (h : x ∈ cutD xs lo hi) : x ∈ xs := List.mem_of_mem_drop (List.mem_of_mem_take h)
theorem cutD_map {α β : Type} (f : α → β) (xs : List α) (lo hi : Option Int) : cutD (xs.map f) lo hi = (cutD xs lo hi).map f := by
  unfold cutD
  rw [List.length_map, List.map_take, List.map_drop]
end VS
namespace VS
theorem bigI_of {n : Int} (h : -4611686018427387904 ≤ n) (h2 : n < 4611686018427387904) : bigI n = true := by
  unfold bigI
  simp only [decide_eq_true_eq]
  omega
end VS
namespace VS
theorem Ops_ixAll {env : VEnv} {Q : R → VEnv → Prop} {k : Int} {r1 : R} {b : Bool} {ds : List D} (h1 : Items r1 env b ds) (h : 0 ≤ k) (h2 : k < ds.length) (q : ∀ d, d ∈ ds → Q (.o (.val d)) env) : Ops gIx2 [r1, .o (.val (.int k))] Q env := by
  obtain ⟨y, hy, _, hm⟩ := atD_nat h h2
  exact Ops_ix h1 hy (q y hm)
theorem Ops_ixSAll {env : VEnv} {Q : R → VEnv → Prop} {k : Int} {s : List Nat} (hl : s.length ≤ maxLen) (h : 0 ≤ k) (h2 : k < s.length) (q : ∀ n, n ∈ s → Q (.o (.val (.str [n]))) env) : Ops gIx2 [.o (.val (.str s)), .o (.val (.int k))] Q env := by
  obtain ⟨y, hy, _, hm⟩ := atD_nat h h2
  exact Ops_ixS hl hy (q y hm)
theorem Ops_ixOAll {env : VEnv} {Q : R → VEnv → Prop} {k : Int} {os : List O} (hv : vals os = none) (h : 0 ≤ k) (h2 : k < os.length) (q : ∀ x, x ∈ os → Q (.o x) env) : Ops gIx2 [.o (.lst os), .o (.val (.int k))] Q env := by
  obtain ⟨y, hy, _, hm⟩ := atD_nat h h2
  exact Ops_ixO hv hy (q y hm)
end VS
namespace VS
theorem oLst_set (ds : List D) (n : Nat) (d : D) : O.lst ((ds.map .val).set n (.val d)) = oLst (ds.set n d) := by unfold oLst; rw [List.map_set]
theorem isLst_oLst (ds : List D) : isLst (some (oLst ds)) = true := rfl
theorem setIx_plain {env e2 : VEnv} {QS : Out → VEnv → Prop} {i : Nat} {k : Int} {d : D} {ds : List D} (h : env.at i = some (oLst ds)) (h0 : 0 ≤ k) (h1 : k < ds.length) (p : Put env i (oLst (ds.set k.toNat d)) e2) (q : QS .nx e2) :
    ∃ x e1 k' os n e2, Settle (.o (.val d)) env x e1 ∧ (R.o (.val (.int k))) = .o (.val (.int k')) ∧ e1.at i = some (.lst os) ∧ ixN' os.length k' = some n ∧ Put e1 i (.lst (os.set n x)) e2 ∧ QS .nx e2 :=
  ⟨_, _, k, ds.map .val, k.toNat, e2, .o, rfl, h, by unfold ixN'; rw [if_pos h0, List.length_map, if_pos h1], by rw [oLst_set]; exact p, q⟩
theorem ints_of {ys : List D} (h : ∀ y ∈ ys, ∃ i, y = D.int i) : ∃ cs : List Int, ys = cs.map .int := by
  induction ys with
  | nil => exact ⟨[], rfl⟩
  | cons y ys ih =>
    obtain ⟨i, rfl⟩ := h y (by simp)
    obtain ⟨cs, rfl⟩ := ih fun z hz => h z (by simp [hz])
    exact ⟨i :: cs, rfl⟩
theorem ys_all {ds ys : List D} {P : D → D → Prop} (hl : ys.length = ds.length) (hy : ∀ (k : Nat) (d y : D), ds[k]? = some d → ys[k]? = some y → P d y) : ∀ y ∈ ys, ∃ d ∈ ds, P d y := fun y h => by
  obtain ⟨k, hk⟩ := List.getElem?_of_mem h
  have hk2 : k < ds.length := by rw [← hl]; exact (List.getElem?_eq_some_iff.mp hk).1
  exact ⟨_, List.getElem_mem hk2, hy k _ y (List.getElem?_eq_getElem hk2) hk⟩
theorem rangeD_len (lo hi : Int) : (rangeD lo hi).length = (hi - lo).toNat := by simp [rangeD]
end VS
namespace VS
theorem joinD_nil : ∀ ss : List (List Nat), joinD [] ss = ss.flatten
  | [] => rfl
  | [a] => by simp [joinD]
  | a :: b :: ss => by
    have := joinD_nil (b :: ss)
    simp only [joinD, List.nil_append, List.flatten_cons] at this ⊢
    rw [this]
theorem joinD_singles (ss : List Nat) : joinD [] (ss.map fun i => [i]) = ss := by
  rw [joinD_nil]
  induction ss with
  | nil => rfl
  | cons a ss ih => rw [List.map_cons, List.flatten_cons, ih]; rfl
theorem strs_of {ys : List D} {P : Nat → Prop} (h : ∀ y ∈ ys, ∃ i, P i ∧ y = D.str [i]) : ∃ cs : List Nat, ys = (cs.map fun i => [i]).map .str ∧ ∀ i ∈ cs, P i := by
  induction ys with
  | nil => exact ⟨[], rfl, by simp⟩
  | cons y ys ih =>
    obtain ⟨i, hi, rfl⟩ := h y (by simp)
    obtain ⟨cs, rfl, hc⟩ := ih fun z hz => h z (by simp [hz])
    exact ⟨i :: cs, rfl, fun j hj => by rcases List.mem_cons.mp hj with rfl | hj; exact hi; exact hc j hj⟩
theorem sum_singles (ss : List Nat) : ((ss.map fun i => [i]).map List.length).sum = ss.length := by
  induction ss with
  | nil => rfl
  | cons a ss ih => simp only [List.map_cons, List.sum_cons, ih, List.length_cons, List.length_nil]; omega
end VS
namespace VS
theorem cutD_take {α : Type} (xs : List α) {r : Int} (h : 0 ≤ r) : cutD xs none (some r) = xs.take r.toNat := by
  have e : sIx' xs.length xs.length (some r) = min r.toNat xs.length := by unfold sIx'; exact if_neg (by omega)
  unfold cutD
  rw [e]
  show List.take (_ - 0) (List.drop 0 xs) = _
  rw [List.drop_zero, Nat.sub_zero]
  by_cases hr : r.toNat ≤ xs.length
  · rw [Nat.min_eq_left hr]
  · rw [Nat.min_eq_right (by omega), List.take_length, List.take_of_length_le (by omega)]
theorem cutD_drop {α : Type} (xs : List α) {r : Int} (h : 0 ≤ r) : cutD xs (some r) none = xs.drop r.toNat := by
  have e : sIx' xs.length 0 (some r) = min r.toNat xs.length := by unfold sIx'; exact if_neg (by omega)
  unfold cutD
  rw [e]
  show List.take (xs.length - _) _ = _
  by_cases hr : r.toNat ≤ xs.length
  · rw [Nat.min_eq_left hr, List.take_of_length_le (by rw [List.length_drop]; exact Nat.le_refl _)]
  · rw [Nat.min_eq_right (by omega), List.drop_eq_nil_of_le (show xs.length ≤ r.toNat by omega)]
    simp
end VS
namespace VS
theorem Wp_dict0 {env : VEnv} {Q : R → VEnv → Prop} {X : Exc → VEnv → Prop} {b : Bool} (q : Q (.o (.dct b [])) env) : Wp (eDict0 b) env Q X := Wp_ret q
end VS
namespace VS
theorem allBl_map {α : Type} (f : α → Bool) (xs : List α) : allBl (xs.map fun x => .bl (f x)) = some (xs.map f) := by
  induction xs with
  | nil => rfl
  | cons x xs ih => rw [List.map_cons, allBl, ih]; rfl
theorem Ops_all {env : VEnv} {Q : R → VEnv → Prop} {α : Type} (f : α → Bool) {xs : List α} {ds : List D} (h : ds = xs.map fun x => .bl (f x)) (q : Q (.o (.val (.bl (xs.all f)))) env) : Ops (opS fAll) [.o (oLst ds)] Q env := by
  subst h
  refine Ops_1 (x := .lst _) RD.ol.eq ?_ q
  simp [fAll, allBl_map, List.all_map]
theorem Ops_any {env : VEnv} {Q : R → VEnv → Prop} {α : Type} (f : α → Bool) {xs : List α} {ds : List D} (h : ds = xs.map fun x => .bl (f x)) (q : Q (.o (.val (.bl (xs.any f)))) env) : Ops (opS fAny) [.o (oLst ds)] Q env := by
  subst h
  refine Ops_1 (x := .lst _) RD.ol.eq ?_ q
  simp [fAny, allBl_map, List.any_map]
theorem Ops_inS {env : VEnv} {Q : R → VEnv → Prop} {k : Nat} {s : List Nat} (q : Q (.o (.val (.bl (decide (k ∈ s))))) env) : Ops (opS fIn) [.o (.val (.str [k])), .o (.val (.str s))] Q env := Ops_s2 rfl q
def tame : D → Bool
  | .scr _ => false
  | .ins _ _ => false
  | _ => true
end VS
namespace VS
theorem br_tr {b : Bool} {A B : Prop} (h : b = true) (h1 : A) : (b = true → A) ∧ (b = false → B) := by subst h; exact ⟨fun _ => h1, fun h => Bool.noConfusion h⟩
theorem br_fl {b : Bool} {A B : Prop} (h : b = false) (h1 : B) : (b = true → A) ∧ (b = false → B) := by subst h; exact ⟨fun h => Bool.noConfusion h, fun _ => h1⟩
end VS
namespace VS
theorem Wp_varX {env : VEnv} {Q : R → VEnv → Prop} {X : Exc → VEnv → Prop} {j : Nat} {x : O} (hj : env.at j = some x) (q : ∀ r : R, r.data env = some x.data → (r = .b j ∨ ∃ d, r = .o (.val d)) → Q r env) : Wp (eVar j) env Q X := by
  cases hx : isV x with
  | false => exact Wp_varB hj hx (q (.b j) (by show Option.map _ (env.at j) = _; rw [hj]; rfl) (.inl rfl))
  | true =>
    cases x with
    | val d => exact Wp_var hj (q _ rfl (.inr ⟨d, rfl⟩))
    | lst => cases hx
    | tup => cases hx
    | dct => cases hx
    | ins => cases hx
theorem callQ_2 {g : Fn} {j : Nat} {k d : D} {r : R} {env : VEnv} {Q : R → VEnv → Prop} {X : Exc → VEnv → Prop} (hr : r.data env = some d) (hr2 : r = .b j ∨ ∃ d, r = .o (.val d)) (h : FS g [.val k, .val d] (fun v os' => (∃ a b, os' = [a, b]) ∧ v.clean = true ∧ Q (.o v) env) (fun _ _ => False)) : callQ [false, false] g Q X [.o (.val k), r] env := by
  refine callQ_mkB (Args.fv (Args.f hr Args.n)) ?_ (FS_mono h (fun v os' h => ?_) fun _ _ h => h.elim)
  · rcases hr2 with rfl | ⟨d, rfl⟩ <;> rfl
  · obtain ⟨⟨a, b, rfl⟩, h1, h2⟩ := h
    exact ⟨by show (v.clean && _) = true; rw [h1]; rfl, env, Puts.f (Puts.f Puts.n), h2⟩
end VS
namespace VS
theorem imms_iff (ds : List D) : imms ds = true ↔ ∀ d ∈ ds, d.imm = true := by
  induction ds with
  | nil => simp [imms]
  | cons d ds ih => simp [imms, ih]
theorem cleans_val (ds : List D) : cleans (ds.map .val) = imms ds := by
  induction ds with
  | nil => rfl
  | cons d ds ih => rw [List.map_cons, cleans, imms, ih]; rfl
theorem oLst_clean (ds : List D) : (oLst ds).clean = imms ds := by rw [oLst, O.clean, cleans_val]
theorem imms_ints (cs : List Int) : imms (cs.map .int) = true := (imms_iff _).mpr fun d hd => by obtain ⟨n, _, rfl⟩ := List.mem_map.mp hd; rfl
theorem Hand.clean (h : Hand) : h.o.clean = true := by
  unfold Hand.o
  simp [O.clean, cleans, oLst_clean, imms_ints, D.imm]
def wD (w : List Int) : D := .tup (w.map .int)
theorem wD_imm (w : List Int) : (wD w).imm = true := by unfold wD; rw [D.imm]; exact imms_ints w
theorem imms_words (ws : List (List Int)) : imms (ws.map wD) = true := (imms_iff _).mpr fun d hd => by obtain ⟨n, _, rfl⟩ := List.mem_map.mp hd; exact wD_imm n
def PFree (a b : List Int) : Prop := ¬ a <+: b ∧ ¬ b <+: a
theorem PFree.symm {a b : List Int} (h : PFree a b) : PFree b a := ⟨h.2, h.1⟩
theorem PFree.snoc {w x : List Int} {b : Int} (h : PFree w x) : PFree (w ++ [b]) x := by
  refine ⟨fun ⟨t, ht⟩ => h.1 ⟨b :: t, by simpa using ht⟩, fun hp => ?_⟩
  rcases List.prefix_concat_iff.mp hp with e | e
  · exact h.1 ⟨[b], by rw [e]⟩
  · exact h.2 e
theorem PFree.two {w : List Int} {b b' : Int} (h : b ≠ b') : PFree (w ++ [b]) (w ++ [b']) := by
  have aux : ∀ b b' : Int, b ≠ b' → ¬ (w ++ [b] <+: w ++ [b']) := fun b b' h hp => by
    rw [List.prefix_append_right_inj] at hp
    have := List.prefix_cons_iff.mp hp
    simp at this
    exact h this
  exact ⟨aux b b' h, aux b' b (Ne.symm h)⟩
theorem pf_split {A B : List (List Int)} {w : List Int} {some : List Int} (h : (A ++ w :: B).Pairwise PFree) (hs : some.Nodup) : (A ++ some.map (fun b => w ++ [b]) ++ B).Pairwise PFree := by
  rw [List.pairwise_append, List.pairwise_cons] at h
  obtain ⟨hA, ⟨hw, hB⟩, hAB⟩ := h
  rw [List.append_assoc, List.pairwise_append, List.pairwise_append]
  refine ⟨hA, ⟨?_, hB, fun x hx y hy => ?_⟩, fun x hx y hy => ?_⟩
  · rw [List.pairwise_map]
    exact hs.imp fun h => PFree.two h
  · obtain ⟨b, _, rfl⟩ := List.mem_map.mp hx
    exact (hw y hy).snoc
  · rcases List.mem_append.mp hy with hy | hy
    · obtain ⟨b, _, rfl⟩ := List.mem_map.mp hy
      exact (hAB x hx w (by simp)).symm.snoc.symm
    · exact hAB x hx y (by simp [hy])
structure WordsOk (some : List Int) (M : Int) (ws : List (List Int)) : Prop where
  ne : ∀ w ∈ ws, w ≠ []
  le : ∀ w ∈ ws, (w.length : Int) ≤ M
  by_ : ∀ w ∈ ws, ∀ b ∈ w, b ∈ some
theorem WordsOk.sub {some : List Int} {M : Int} {ws ws' : List (List Int)} (h : WordsOk some M ws) (s : ∀ w ∈ ws', w ∈ ws) : WordsOk some M ws' := ⟨fun w hw => h.ne w (s w hw), fun w hw => h.le w (s w hw), fun w hw => h.by_ w (s w hw)⟩
theorem list_split {α : Type} {xs : List α} {k : Nat} {y : α} (h : xs[k]? = some y) : xs = xs.take k ++ y :: xs.drop (k + 1) := by
  obtain ⟨hk, rfl⟩ := List.getElem?_eq_some_iff.mp h
  rw [← List.drop_eq_getElem_cons hk, List.take_append_drop]
end VS
namespace VS
theorem compQ_sub {is : List Nat} {t : Tg} {c : M Bool} {ee : EV} {Q : R → VEnv → Prop} (E E0 : Hand → VEnv) (f : D → D) {ds : List D} (hh : ∀ h, Hide is (E h) (E0 h)) (hb : ∀ h h', Back is (E h) (E0 h') (E h')) (hl : ds.length ≤ maxLen) {h : Hand}
    (hs : ∀ d ∈ ds, ∀ h : Hand, ∃ e1, SetT t (.val d) (E0 h) e1 ∧ Wp c e1 (fun b e2 => (b = true → Wp ee e2 (fun r e3 => ∃ h', r = .o (.val (f d)) ∧ Hide is e3 (E0 h')) (fun _ _ => False)) ∧ (b = false → ∃ h', Hide is e2 (E0 h'))) (fun _ _ => False))
    (q : ∀ (ys : List D) (h' : Hand), ys.Sublist ds → Q (.o (oLst (ys.map f))) (E h')) : compQ is t c ee Q ds (E h) := by
  refine ⟨E0 h, hh h, Wp_mono (Wp_compL (QL := fun os e => ∃ (ys : List D) (h' : Hand), os = (ys.map f).map .val ∧ e = E0 h' ∧ ys.Sublist ds) (fun rs acc e => ∃ (ps ys : List D) (h' : Hand), e = E0 h' ∧ ds = ps ++ rs ∧ acc = (ys.map f).map .val ∧ ys.Sublist ps) (fun d rs acc e h => ?_) (fun acc e h => ?_) ds [] (E0 h) ⟨[], [], h, rfl, rfl, rfl, List.Sublist.refl _⟩) (fun os e h0 => ?_) fun _ _ h => h.elim⟩
  · obtain ⟨ps, ys, h', rfl, h1, rfl, h2⟩ := h
    obtain ⟨e1, h4, h5⟩ := hs d (by rw [h1]; simp) h'
    refine ⟨e1, h4, Wp_mono h5 (fun b e2 h => ?_) fun _ _ h => h⟩
    refine ⟨fun hb => Wp_mono (h.1 hb) (fun r e3 h => ?_) fun _ _ h => h, fun hb => ?_⟩
    · obtain ⟨h'', rfl, hh⟩ := h
      refine ⟨_, e3, E0 h'', .o, ?_, hh, ps ++ [d], ys ++ [d], h'', rfl, by simp [h1], by simp, h2.append (List.Sublist.refl _)⟩
      have l1 := h2.length_le
      have l2 := congrArg List.length h1
      simp at l2 ⊢
      omega
    · obtain ⟨h'', hh⟩ := h.2 hb
      exact ⟨E0 h'', hh, ps ++ [d], ys, h'', rfl, by simp [h1], rfl, h2.trans (List.sublist_append_left _ _)⟩
  · obtain ⟨ps, ys, h', rfl, h1, rfl, h2⟩ := h
    rw [List.append_nil] at h1
    subst h1
    exact ⟨ys, h', rfl, rfl, h2⟩
  · obtain ⟨ys, h', rfl, rfl, h2⟩ := h0
    exact ⟨E h', hb h h', q ys h' h2⟩
theorem sub_map {α β : Type} {f : α → β} {xs : List α} {ys : List β} (h : ys.Sublist (xs.map f)) : ∃ zs : List α, ys = zs.map f ∧ zs.Sublist xs := by
  obtain ⟨zs, h1, h2⟩ := List.sublist_map_iff.mp h
  exact ⟨zs, h2, h1⟩
end VS
namespace VS
section
variable {e e1 : VEnv} {i : Nat} {ds : List D} {QD : List D → VEnv → Prop}
def anyQ (QD : List D → VEnv → Prop) (r : R) (e : VEnv) : Prop := (∃ x e1 ds, Settle r e x e1 ∧ (x.data = .lst ds ∨ x.data = .tup ds) ∧ QD ds e1) ∨ (∃ s, r = .o (.val (.str s)) ∧ QD (s.map fun k => .str [k]) e)
theorem Settle.bL (h : e[i]? = some (.loc (oLst ds))) (u : Upd e i (.loc (.val (.lst ds))) e1) : Settle (.b i) e (.val (.lst ds)) e1 := by
  rw [← oLst_data] at u ⊢
  exact .b h u
theorem any_bL (h : e[i]? = some (.loc (oLst ds))) (u : Upd e i (.loc (.val (.lst ds))) e1) (q : QD ds e1) : anyQ QD (.b i) e := .inl ⟨_, e1, ds, .bL h u, .inl rfl, q⟩
theorem any_vL (q : QD ds e) : anyQ QD (.o (.val (.lst ds))) e := .inl ⟨_, e, ds, .o, .inl rfl, q⟩
theorem any_vT (q : QD ds e) : anyQ QD (.o (.val (.tup ds))) e := .inl ⟨_, e, ds, .o, .inr rfl, q⟩
theorem any_oL (q : QD ds e) : anyQ QD (.o (oLst ds)) e := .inl ⟨_, e, ds, .o, .inl (oLst_data _), q⟩
theorem any_vS {s : List Nat} (q : QD (s.map fun k => .str [k]) e) : anyQ QD (.o (.val (.str s))) e := .inr ⟨s, rfl, q⟩
theorem Wp_anyI {a : EV} {env : VEnv} {X : Exc → VEnv → Prop} (h : Wp a env (anyQ QD) X) : Wp (itAny a) env QD X := Wp_any h
end
end VS
namespace VS
theorem Wp_forR0 {f : SV1} {QS : Out → VEnv → Prop} {X : Exc → VEnv → Prop} {t : Tg} {lo hi : Int} (hn : lo ≤ hi) (I : Int → VEnv → Prop) (hs : ∀ k e, lo ≤ k → k < hi → I k e → ∃ e1, SetT t (.val (.int k)) e e1 ∧ Wp f e1 (forQ (I (k + 1)) QS) X) (he : ∀ e, I hi e → QS .nx e) {env : VEnv} (h0 : I lo env) : Wp (forL t f (rangeD lo hi)) env QS X := by
  refine Wp_forR hi (fun k e => lo ≤ k ∧ k ≤ hi ∧ I k e) (fun k e hk h => ?_) (fun k e hk h => ?_) lo env ⟨Int.le_refl _, hn, h0⟩
  · obtain ⟨h1, h2, h3⟩ := h
    obtain ⟨e1, a, b⟩ := hs k e h1 hk h3
    refine ⟨e1, a, Wp_mono b (fun o e h => ?_) fun _ _ h => h⟩
    unfold forQ at h ⊢
    cases o with
    | nx => exact ⟨by omega, by omega, h⟩
    | cnt => exact ⟨by omega, by omega, h⟩
    | brk => exact h
    | ret v => exact h
  · obtain ⟨h1, h2, h3⟩ := h
    have : k = hi := by omega
    subst this
    exact he e h3
theorem Wp_forL0 {f : SV1} {QS : Out → VEnv → Prop} {X : Exc → VEnv → Prop} {t : Tg} {ds : List D} (I : List D → List D → VEnv → Prop) (hs : ∀ ps d rs e, ds = ps ++ d :: rs → I ps (d :: rs) e → ∃ e1, SetT t (.val d) e e1 ∧ Wp f e1 (forQ (I (ps ++ [d]) rs) QS) X) (he : ∀ e, I ds [] e → QS .nx e) {env : VEnv} (h0 : I [] ds env) : Wp (forL t f ds) env QS X := by
  refine Wp_forL (fun rs e => ∃ ps, ds = ps ++ rs ∧ I ps rs e) (fun d rs e h => ?_) (fun e h => ?_) ds env ⟨[], rfl, h0⟩
  · obtain ⟨ps, h1, h2⟩ := h
    obtain ⟨e1, a, b⟩ := hs ps d rs e h1 h2
    refine ⟨e1, a, Wp_mono b (fun o e h => ?_) fun _ _ h => h⟩
    unfold forQ at h ⊢
    cases o with
    | nx => exact ⟨ps ++ [d], by simp [h1], h⟩
    | cnt => exact ⟨ps ++ [d], by simp [h1], h⟩
    | brk => exact h
    | ret v => exact h
  · obtain ⟨ps, h1, h2⟩ := h
    rw [List.append_nil] at h1
    subst h1
    exact he e h2
end VS
namespace VS
theorem Ops_intB {env : VEnv} {Q : R → VEnv → Prop} {b : Bool} (q : ∀ v : Int, (v = 0 ∨ v = 1) → Q (.o (.val (.int v))) env) : Ops (opS fInt) [.o (.val (.bl b))] Q env := Ops_s1 rfl (q _ (by cases b <;> simp))
theorem Ops_intI {env : VEnv} {Q : R → VEnv → Prop} {i : Int} (q : Q (.o (.val (.int i))) env) : Ops (opS fInt) [.o (.val (.int i))] Q env := Ops_s1 rfl q
theorem Ops_revL {env : VEnv} {Q : R → VEnv → Prop} {r : R} {ds : List D} (h : Items r env true ds) (q : Q (.o (oLst ds.reverse)) env) : Ops opRev [r] Q env := Ops_mk (by unfold opRev; simp only [h.eq]) q
theorem Ops_revT {env : VEnv} {Q : R → VEnv → Prop} {r : R} {ds : List D} (h : Items r env false ds) (q : Q (.o (.val (.tup ds.reverse))) env) : Ops opRev [r] Q env := Ops_mk (by unfold opRev; simp only [h.eq]) q
theorem Wp_par {i j : Nat} {a b : EV} {env : VEnv} {QS : Out → VEnv → Prop} {X : Exc → VEnv → Prop} (h : Wp (eArgs [a, b]) env (fun rs e => ∃ x y e1 e2 e3, Settles rs e [x, y] e1 ∧ Upd e1 i (.loc x) e2 ∧ Upd e2 j (.loc y) e3 ∧ QS .nx e3) X) : Wp (sPar i j a b) env QS X :=
  Wp_bind (Wp_mono h (fun rs e h => by
    obtain ⟨x, y, e1, e2, e3, h1, h2, h3, q⟩ := h
    unfold Wp
    simp only [h1.eq, M.liftE, Tg.sets, Tg.set, h2.eq, h3.eq, Option.map_some]
    exact q) fun _ _ h => h)
theorem par_oo {i j : Nat} {x y : O} {e e2 e3 : VEnv} {QS : Out → VEnv → Prop} (h2 : Upd e i (.loc x) e2) (h3 : Upd e2 j (.loc y) e3) (q : QS .nx e3) : ∃ x' y' e1 e2 e3, Settles [.o x, .o y] e [x', y'] e1 ∧ Upd e1 i (.loc x') e2 ∧ Upd e2 j (.loc y') e3 ∧ QS .nx e3 := ⟨x, y, e, e2, e3, .c .o (.c .o .n), h2, h3, q⟩
theorem Wp_range3 {a b c : EV} {env : VEnv} {QD : List D → VEnv → Prop} {X : Exc → VEnv → Prop} (h : Wp a env (fun r e => Wp b e (fun s e' => Wp c e' (fun t e2 => ∃ i j k, r = .o (.val (.int i)) ∧ s = .o (.val (.int j)) ∧ t = .o (.val (.int k)) ∧ bigI i = true ∧ bigI j = true ∧ (k = -1 ∨ k = 2) ∧ QD (rangeC i k (rsz i j k).toNat) e2) X) X) X) : Wp (itRange3 a b c) env QD X :=
  Wp_bind (Wp_mono h (fun r e h => Wp_bind (Wp_mono h (fun s e' h => Wp_bind (Wp_mono h (fun t e2 h => by
    obtain ⟨i, j, k, rfl, rfl, rfl, h1, h2, h3, q⟩ := h
    have : (k == -1 || k == 2) = true := by simpa using h3
    simp only [h1, h2, this, Bool.and_self, if_true]
    exact Wp_ret q) fun _ _ h => h)) fun _ _ h => h)) fun _ _ h => h)
theorem rsz_down (i : Int) : (rsz i (-1) (-1)).toNat = (i + 1).toNat := by
  unfold rsz
  have h2 : (-(-1) : Int) = 1 := rfl
  simp only [show ¬ ((-1 : Int) > 0) by decide, if_false, h2, Int.ediv_one]
  split <;> omega
theorem rangeC_down (n : Nat) : rangeC ((n : Int) - 1) (-1) n = ((List.range n).reverse).map fun (k : Nat) => D.int k := by
  unfold rangeC
  apply List.ext_getElem?
  intro i
  rw [List.getElem?_map, List.getElem?_map]
  by_cases hi : i < n
  · rw [List.getElem?_range hi, List.getElem?_reverse (by simpa using hi), List.length_range, List.getElem?_range (by omega)]
    simp
    omega
  · rw [List.getElem?_eq_none (by simpa using hi), List.getElem?_eq_none (by simpa using hi)]
    rfl
end VS
namespace VS
theorem Ops_powL {env : VEnv} {Q : R → VEnv → Prop} {j k v : Int} (h : 0 ≤ k ∧ k ≤ 1000000 ∧ j.natAbs < 2 ^ 64) (hv : j ^ k.toNat = v) (q : Q (.o (.val (.int v))) env) : Ops (opS fPow) [.o (.val (.int j)), .o (.val (.int k))] Q env := Ops_pow h (by rw [hv]; exact q)
end VS
namespace VS
theorem Ops_ixF {α : Type} {f : α → D} {xs : List α} {env : VEnv} {Q : R → VEnv → Prop} {r1 : R} {b : Bool} {i : Int} (h1 : Items r1 env b (xs.map f)) (hne : xs ≠ []) (q : ∀ x ∈ xs, Q (.o (.val (f x))) env) : Ops gIx2 [r1, .o (.val (.int (i.fmod ((xs.map f).length : Int))))] Q env := by
  obtain ⟨y, hy, hm⟩ := atD_fmod xs hne i
  refine Ops_ix h1 (d := f y) ?_ (q y hm)
  rw [List.length_map, atD_map, hy]; rfl
theorem Ops_ixR {α : Type} {f : α → D} {xs : List α} {env : VEnv} {Q : R → VEnv → Prop} {r1 : R} {b : Bool} {k : Int} (h1 : Items r1 env b (xs.map f)) (h : 0 ≤ k) (h2 : k < xs.length) (q : ∀ x, xs[k.toNat]? = some x → x ∈ xs → Q (.o (.val (f x))) env) : Ops gIx2 [r1, .o (.val (.int k))] Q env := by
  obtain ⟨y, hy, he, hm⟩ := atD_nat h h2
  refine Ops_ix h1 (d := f y) ?_ (q y he hm)
  rw [atD_map, hy]; rfl
theorem words_of {ys : List D} {P : List Int → Prop} (h : ∀ y ∈ ys, ∃ w, P w ∧ y = wD w) : ∃ ws : List (List Int), ys = ws.map wD ∧ ∀ w ∈ ws, P w := by
  induction ys with
  | nil => exact ⟨[], rfl, by simp⟩
  | cons y ys ih =>
    obtain ⟨i, hi, rfl⟩ := h y (by simp)
    obtain ⟨cs, rfl, hc⟩ := ih fun z hz => h z (by simp [hz])
    exact ⟨i :: cs, rfl, fun j hj => by rcases List.mem_cons.mp hj with rfl | hj; exact hi; exact hc j hj⟩
theorem ints_ofP {ys : List D} {P : Int → Prop} (h : ∀ y ∈ ys, ∃ i, P i ∧ y = D.int i) : ∃ cs : List Int, ys = cs.map .int ∧ ∀ i ∈ cs, P i := by
  induction ys with
  | nil => exact ⟨[], rfl, by simp⟩
  | cons y ys ih =>
    obtain ⟨i, hi, rfl⟩ := h y (by simp)
    obtain ⟨cs, rfl, hc⟩ := ih fun z hz => h z (by simp [hz])
    exact ⟨i :: cs, rfl, fun j hj => by rcases List.mem_cons.mp hj with rfl | hj; exact hi; exact hc j hj⟩
def pD (p : Int × List Int) : D := .tup [.int p.1, wD p.2]
theorem pD_imm (p : Int × List Int) : (pD p).imm = true := by simp [pD, D.imm, imms, wD_imm]
theorem imms_pairs (ps : List (Int × List Int)) : imms (ps.map pD) = true := (imms_iff _).mpr fun d hd => by obtain ⟨n, _, rfl⟩ := List.mem_map.mp hd; exact pD_imm n
theorem append_plain {env e2 : VEnv} {P : VEnv → Prop} {i : Nat} {d : D} {ds : List D} (h : env.at i = some (oLst ds)) (h1 : ds.length < maxLen) (p : Put env i (oLst (ds ++ [d])) e2) (q : P e2) :
    ∃ x e1 os e2, Settle (.o (.val d)) env x e1 ∧ e1.at i = some (.lst os) ∧ os.length < maxLen ∧ Put e1 i (.lst (os ++ [x])) e2 ∧ P e2 := by
  have e : O.lst (ds.map .val ++ [.val d]) = oLst (ds ++ [d]) := by simp [oLst]
  refine ⟨_, _, ds.map .val, e2, .o, h, by rw [List.length_map]; exact h1, ?_, q⟩
  rw [e]
  exact p
theorem Wp_app {a : EV} {env : VEnv} {Q : R → VEnv → Prop} {X : Exc → VEnv → Prop} {i : Nat} (hl : isLst (VEnv.at env i) = true) (h : Wp a env (fun r e => ∃ x e1 os e2, Settle r e x e1 ∧ e1.at i = some (.lst os) ∧ os.length < maxLen ∧ Put e1 i (.lst (os ++ [x])) e2 ∧ Q (.o (.val .non)) e2) X) : Wp (eLm i (eArgs [a]) (lmAppend i)) env Q X := Wp_append hl h
end VS
namespace VS
theorem isLst_and {o : Option O} {P : Prop} (h : isLst o = true) (q : P) : isLst o = true ∧ P := ⟨h, q⟩
theorem bigI_and {n : Int} {P : Prop} (h : -4611686018427387904 ≤ n) (h2 : n < 4611686018427387904) (q : P) : bigI n = true ∧ P := ⟨bigI_of h h2, q⟩
end VS
namespace VS
theorem okE_wD (w : List Int) : (wD w).canE = true ∧ (wD w).dep ≤ 1 := by
  refine ⟨?_, ?_⟩
  · unfold wD; rw [D.canE]; exact (canEs_iff _).mpr fun d hd => by obtain ⟨n, _, rfl⟩ := List.mem_map.mp hd; rfl
  · show deps (w.map .int) + 1 ≤ 1
    have : deps (w.map .int) ≤ 0 := (deps_le _ _).mpr fun d hd => by obtain ⟨n, _, rfl⟩ := List.mem_map.mp hd; exact Nat.le_refl _
    omega
theorem okE_of {d : D} {n : Nat} (h : d.canE = true ∧ d.dep ≤ n) (hn : n ≤ 60) : okE d = true := by
  unfold okE
  rw [Bool.and_eq_true, decide_eq_true_eq]
  exact ⟨h.1, by omega⟩
theorem can_lst {ds : List D} {n : Nat} (h : ∀ d ∈ ds, d.canE = true ∧ d.dep ≤ n) : (D.lst ds).canE = true ∧ (D.lst ds).dep ≤ n + 1 := by
  refine ⟨?_, ?_⟩
  · rw [D.canE]; exact (canEs_iff _).mpr fun d hd => (h d hd).1
  · show deps ds + 1 ≤ n + 1
    have := (deps_le ds n).mpr fun d hd => (h d hd).2
    omega
theorem can_tup {ds : List D} {n : Nat} (h : ∀ d ∈ ds, d.canE = true ∧ d.dep ≤ n) : (D.tup ds).canE = true ∧ (D.tup ds).dep ≤ n + 1 := by
  refine ⟨?_, ?_⟩
  · rw [D.canE]; exact (canEs_iff _).mpr fun d hd => (h d hd).1
  · show deps ds + 1 ≤ n + 1
    have := (deps_le ds n).mpr fun d hd => (h d hd).2
    omega
theorem can_int (i : Int) (n : Nat) : (D.int i).canE = true ∧ (D.int i).dep ≤ n := ⟨rfl, Nat.zero_le _⟩
theorem can_pD (p : Int × List Int) : (pD p).canE = true ∧ (pD p).dep ≤ 2 := can_tup fun d hd => by
  simp only [List.mem_cons, List.not_mem_nil, or_false] at hd
  rcases hd with rfl | rfl
  · exact can_int _ _
  · exact okE_wD _
theorem okE_w (w : List Int) : okE (wD w) = true := okE_of (okE_wD w) (by decide)
theorem okE_tints (w : List Int) : okE (.tup (w.map .int)) = true := okE_w w
theorem okE_words (ws : List (List Int)) : okE (.lst (ws.map wD)) = true := okE_of (can_lst (n := 1) fun d hd => by obtain ⟨w, _, rfl⟩ := List.mem_map.mp hd; exact okE_wD w) (by decide)
theorem okE_pairs (ps : List (Int × List Int)) : okE (.lst (ps.map pD)) = true := okE_of (can_lst (n := 2) fun d hd => by obtain ⟨w, _, rfl⟩ := List.mem_map.mp hd; exact can_pD w) (by decide)
end VS
namespace VS
theorem eqD_nil (ds : List D) : eqD (.lst ds) (.lst []) = decide (ds = []) := by simp only [eqD, eqDs_nil]
theorem ne_of_eqD {α : Type} {f : α → D} {xs : List α} (h : eqD (.lst (xs.map f)) (.lst []) = false) : xs ≠ [] := by
  rw [eqD_nil] at h
  intro e
  subst e
  simp at h
theorem nil_of_eqD {α : Type} {f : α → D} {xs : List α} (h : eqD (.lst (xs.map f)) (.lst []) = true) : xs = [] := by
  rw [eqD_nil] at h
  simpa using h
end VS
namespace VS
theorem eqDs_ints : ∀ xs ys : List Int, eqDs (xs.map .int) (ys.map .int) = decide (xs = ys)
  | [], [] => rfl
  | [], _ :: _ => rfl
  | _ :: _, [] => rfl
  | x :: xs, y :: ys => by
    simp only [List.map_cons, eqDs, eqD_int, eqDs_ints xs ys]
    by_cases h : x = y <;> by_cases h2 : xs = ys <;> simp [h, h2]
theorem eqD_tints (xs ys : List Int) : eqD (.tup (xs.map .int)) (.tup (ys.map .int)) = decide (xs = ys) := by rw [eqD, eqDs_ints]
theorem eqD_lints (xs ys : List Int) : eqD (.lst (xs.map .int)) (.lst (ys.map .int)) = decide (xs = ys) := by rw [eqD, eqDs_ints]
theorem cutD_mid {α : Type} (xs : List α) {a b : Int} (ha : 0 ≤ a) (hb : 0 ≤ b) : cutD xs (some a) (some b) = (xs.drop a.toNat).take (b.toNat - a.toNat) := by
  have e1 : sIx' xs.length 0 (some a) = min a.toNat xs.length := by unfold sIx'; exact if_neg (by omega)
  have e2 : sIx' xs.length xs.length (some b) = min b.toNat xs.length := by unfold sIx'; exact if_neg (by omega)
  unfold cutD
  rw [e1, e2]
  by_cases h : a.toNat ≤ xs.length
  · rw [Nat.min_eq_left h]
    by_cases h2 : b.toNat ≤ xs.length
    · rw [Nat.min_eq_left h2]
    · rw [Nat.min_eq_right (by omega), List.take_of_length_le (by rw [List.length_drop]; omega), List.take_of_length_le (by rw [List.length_drop]; omega)]
  · have e3 : min a.toNat xs.length = xs.length := by omega
    rw [e3, List.drop_length, List.drop_eq_nil_of_le (show xs.length ≤ a.toNat by omega), List.take_nil, List.take_nil]
theorem okE_cutT (row : List Int) (a b : Option Int) : okE (.tup (cutD (row.map .int) a b)) = true := by rw [cutD_map]; exact okE_tints _
theorem okE_cutL (row : List Int) (a b : Option Int) : okE (.lst (cutD (row.map .int) a b)) = true := by rw [cutD_map]; exact okE_ints _
theorem augIx_plain {a b : EV} {env : VEnv} {QS : Out → VEnv → Prop} {X : Exc → VEnv → Prop} {i : Nat} {xs : List Int} (hl : env.at i = some (oLst (xs.map .int))) (h : Wp b env (fun q e => ∃ k, q = .o (.val (.int k)) ∧ 0 ≤ k ∧ k < 2 ^ 62 ∧ ∃ x, xs[k.toNat]? = some x ∧ e.at i = some (oLst (xs.map .int)) ∧ Wp a e (fun r e' => ∃ y e2, r = .o (.val (.int y)) ∧ e'.at i = some (oLst (xs.map .int)) ∧ Put e' i (oLst ((xs.set k.toNat (x + y)).map .int)) e2 ∧ QS .nx e2) X) X) : Wp (sAugIx i b fAddI a) env QS X := by
  refine Wp_augIx (os := (xs.map D.int).map O.val) (k := 0) (x := 0) hl (Wp_mono h (fun q e h => ?_) fun _ _ h => h)
  obtain ⟨k, rfl, h0, h1, x, hx, he, h⟩ := h
  have hlt := (List.getElem?_eq_some_iff.mp hx).1
  refine ⟨k, x, rfl, h0, h1, ?_, Wp_mono h (fun r e' h => ?_) fun _ _ h => h⟩
  · unfold itemAt
    rw [he]
    show (match atD ((xs.map D.int).map O.val) k with | some (.val d) => some d | _ => none) = _
    rw [atD_map, atD_map]
    unfold atD ixN'
    rw [if_pos h0, if_pos (by omega), Option.bind_some, hx]
    rfl
  · obtain ⟨y, e2, rfl, he', p, q⟩ := h
    refine ⟨y, (xs.map D.int).map O.val, k.toNat, e2, rfl, he', ?_, ?_, q⟩
    · unfold ixN'
      rw [if_pos h0, List.length_map, List.length_map, if_pos (by omega)]
    · rw [oLst_set]
      have : (xs.map D.int).set k.toNat (.int (x + y)) = (xs.set k.toNat (x + y)).map D.int := by rw [List.map_set]
      rw [this]
      exact p
theorem flat_rep (n : Nat) (d : D) : (List.replicate n [d]).flatten = List.replicate n d := by
  induction n with
  | zero => rfl
  | succ n ih => rw [List.replicate_succ, List.flatten_cons, ih]; rfl
end VS
namespace VS
theorem Ops_lenW {env : VEnv} {Q : R → VEnv → Prop} {w : List Int} (q : Q (.o (.val (.int w.length))) env) : Ops (opS fLen) [.o (.val (wD w))] Q env := by
  refine Ops_s1 (d := .int w.length) ?_ q
  simp [fLen, wD]
end VS
namespace VS
section
variable {env e1 e2 : VEnv} {Q : R → VEnv → Prop} {X : Exc → VEnv → Prop}
theorem Ops_fld {cn n : Nat} {fs : List (Nat × D)} {d : D} (h : fs.lookup n = some d) (q : Q (.o (.val d)) env) : Ops (opFld cn n) [.o (.val (.ins cn fs))] Q env := Ops_mk (by unfold opFld; simp [h]) q
theorem Ops_fldB {cn n i k : Nat} {fs : List (Nat × O)} {m : Nat} {o : O} (h : env.at i = some (.ins cn fs)) (hk : fldAt n fs = some k) (ho : fs[k]? = some (m, o)) (u : env.putP i [k] (.val o.data) = e1) (q : Q (.o (.val o.data)) e1) : Ops (opFld cn n) [.b i] Q env :=
  Ops_mk (by unfold opFld; simp [h, hk, ho, u]) q
theorem Ops_ixD {r1 r2 : R} {o : O} {k d : D} (h1 : r1.own env = some o) (h2 : r2.data env = some k) (h : o.dget k = some (some (.val d))) (h0 : gIx2 [r1, r2] env = none) (q : Q (.o (.val d)) env) : Ops gIx3 [r1, r2] Q env :=
  Ops_mk (by unfold gIx3 opOr; rw [h0]; unfold opIxD; simp [h1, h2, h]) q
theorem Ops_inD {neg : Bool} {r1 r2 : R} {o : O} {k : D} {x : Option O} (h1 : r1.own env = some o) (h2 : r2.data env = some k) (h : o.dget k = some x) (h0 : opS (if neg then fNotIn else fIn) [r2, r1] env = none) (q : Q (.o (.val (.bl (neg != x.isSome)))) env) : Ops (gIn neg) [r2, r1] Q env :=
  Ops_mk (by unfold gIn opOr; rw [h0]; unfold opInD; simp [h1, h2, h]) q
theorem Wp_recv {chk : R → VEnv → Bool} {a : EV} {as : List EV} {g : List R → VEnv → Option (R × VEnv)} (h : Wp a env (fun r e => chk r e = true ∧ Wp (eArgs as) e (fun rs e' => Ops g (r :: rs) Q e') X) X) : Wp (eRecv chk a as g) env Q X :=
  Wp_bind (Wp_mono h (fun r e ⟨h1, h2⟩ => by
    refine Wp_eq (if_pos h1) ?_
    exact Wp_bind (Wp_mono h2 (fun rs e' h3 => by
      unfold Ops at h3
      obtain ⟨r', e2, h4, h5⟩ := h3
      exact Wp_lift h4 h5) fun _ _ h => h)) fun _ _ h => h)
theorem Ops_get1 {r1 r2 : R} {o : O} {k : D} (h1 : r1.own env = some o) (h2 : r2.data env = some k) (h : o.dget k = some none ∧ Q (.o (.val .non)) env ∨ ∃ d, o.dget k = some (some (.val d)) ∧ Q (.o (.val d)) env) : Ops opGet1 [r1, r2] Q env := by
  rcases h with ⟨h, q⟩ | ⟨d, h, q⟩
  · exact Ops_mk (by unfold opGet1; simp [h1, h2, h]) q
  · exact Ops_mk (by unfold opGet1; simp [h1, h2, h]) q
theorem Ops_get2 {r1 r2 : R} {o : O} {k z : D} (h1 : r1.own env = some o) (h2 : r2.data env = some k) (h : o.dget k = some none ∧ Q (.o (.val z)) env ∨ ∃ d, o.dget k = some (some (.val d)) ∧ Q (.o (.val d)) env) : Ops opGet2 [r1, r2, .o (.val z)] Q env := by
  rcases h with ⟨h, q⟩ | ⟨d, h, q⟩
  · exact Ops_mk (by unfold opGet2; simp [h1, h2, h]) q
  · exact Ops_mk (by unfold opGet2; simp [h1, h2, h]) q
theorem Ops_sortSnd {α : Type} {f : α → D} {w : α → List Int} {xs : List α} {r : R} (h1 : Items r env true (xs.map f)) (hw : ∀ x ∈ xs, sndW (f x) = some (w x) ∧ w x ≠ []) (q : Q (.o (oLst ((xs.mergeSort fun a b => decide (w a ≤ w b)).map f))) env) : Ops opSortSnd [r] Q env := by
  refine Ops_mk ?_ q
  have hm : (xs.map f).mapM sndW = some (xs.map w) := by
    clear h1 q
    induction xs with
    | nil => rfl
    | cons x xs ih =>
      rw [List.map_cons, List.mapM_cons, (hw x (by simp)).1, ih fun y hy => hw y (by simp [hy])]
      rfl
  have hn : ((xs.map w).all fun w => !w.isEmpty) = true := List.all_eq_true.mpr fun y hy => by
    obtain ⟨x, hx, rfl⟩ := List.mem_map.mp hy
    have := (hw x hx).2
    cases hh : w x with
    | nil => exact absurd hh this
    | cons a b => rfl
  have hz : (((xs.map f).zip (xs.map w)).mergeSort wordLeD).map (·.1) = (xs.mergeSort fun a b => decide (w a ≤ w b)).map f := by
    rw [List.zip_map', ← List.map_mergeSort (r := fun a b => decide (w a ≤ w b)), List.map_map]
    · rfl
    · intro a _ b _; rfl
  unfold opSortSnd
  simp only [h1.eq, hm, hn, if_true, hz]
end
section
variable {env : VEnv} {QS : Out → VEnv → Prop} {X : Exc → VEnv → Prop} {a : EV}
theorem Wp_setF {pl : Pl} {cn n : Nat} (h : Wp a env (fun r e => ∃ x e1 i p fs e2, Settle r e x e1 ∧ pl e1 = some (i, p) ∧ e1.atP i p = some (.ins cn fs) ∧ fs.length < 1000 ∧ e1.putP i p (.ins cn (putFd n x fs)) = e2 ∧ QS .nx e2) X) : Wp (sSetF pl cn n a) env QS X :=
  Wp_bind (Wp_mono h (fun r e h => by
    obtain ⟨x, e1, i, p, fs, e2, h1, h2, h3, h4, h5, q⟩ := h
    unfold Wp
    simp only [h1.eq, h2, h3, h4, and_self, if_true, h5]
    exact q) fun _ _ h => h)
theorem Wp_setK {pl : Pl} {qk : Rd} (h : Wp a env (fun r e => ∃ x e1 i p k t ks e2, Settle r e x e1 ∧ pl e1 = some (i, p) ∧ qk e1 = some k ∧ e1.atP i p = some (.dct t ks) ∧ okKey t k.data = true ∧ ks.length < maxLen ∧ e1.putP i p (.dct t (putKD ks k.data (.val x.data))) = e2 ∧ QS .nx e2) X) : Wp (sSetK pl qk a) env QS X :=
  Wp_bind (Wp_mono h (fun r e h => by
    obtain ⟨x, e1, i, p, k, t, ks, e2, h1, h2, h3, h4, h5, h6, h7, q⟩ := h
    unfold Wp
    simp only [h1.eq, h2, h3, h4, h5, h6, and_self, if_true, h7]
    exact q) fun _ _ h => h)
theorem Wp_keysF {cn n i : Nat} {QD : List D → VEnv → Prop} {fs : List (Nat × D)} {t : Bool} {ks : List (D × D)} (h : env.at i = some (.val (.ins cn fs))) (h2 : fs.lookup n = some (.dct t ks)) (q : QD (ks.map (·.1)) env) : Wp (itKeysF cn n i) env QD X :=
  Wp_of (r := .ok (ks.map (·.1)) env) (by unfold itKeysF; simp [h, h2]) q
theorem FS_mk {n : Nat} {g : Fn} {os : List O} {Q : O → List O → Prop} {X : Exc → List O → Prop} (h : FS g (.ins n [] :: os) (fun x os' => x = .val .non ∧ ∃ o os'', os' = o :: os'' ∧ Q o os'') (fun e os' => ∃ o os'', os' = o :: os'' ∧ X e os'')) : FS (mkFn n g) os Q X := by
  unfold FS mkFn at *
  cases hg : g (.ins n [] :: os) with
  | none => rw [hg] at h; exact h
  | some r =>
    rw [hg] at h
    cases r with
    | ret x os' =>
      obtain ⟨rfl, o, os'', rfl, q⟩ := h
      exact q
    | ex e os' =>
      obtain ⟨o, os'', rfl, q⟩ := h
      exact q
theorem Wp_meth {cn m : Nat} {ms : List Bool} {g : Fn} {as : List EV} {Q : R → VEnv → Prop} (h : Wp a env (fun r e => isInsR cn m r e = true ∧ Wp (eArgs as) e (fun rs e' => callQ ms g Q X (r :: rs) e') X) X) : Wp (eMeth cn m ms g a as) env Q X :=
  Wp_bind (Wp_mono h (fun r e ⟨h1, h2⟩ => by
    refine Wp_eq (if_pos h1) ?_
    exact Wp_bind (Wp_mono h2 (fun rs e' h => by
      unfold callQ at h
      obtain ⟨os, h1, h2, h3⟩ := h
      unfold Wp callE
      simp only [h1.eq]
      unfold FS at h3
      cases hg : g os with
      | none => rw [hg] at h3; exact h3.elim
      | some r =>
        rw [hg] at h3
        cases r with
        | ret x os' =>
          obtain ⟨h4, e', h5, q⟩ := h3
          simp only [h2, h4, and_self, if_true, FRes.out, h5.eq]
          exact q
        | ex x os' =>
          obtain ⟨h4, e', h5, q⟩ := h3
          simp only [h2, h4, and_self, if_true, FRes.out, h5.eq]
          exact q) fun _ _ h => h)) fun _ _ h => h)
end
end VS
namespace VS
section
variable {α : Type} {f : SV1} {QS : Out → VEnv → Prop} {X : Exc → VEnv → Prop} {t : Tg} {env e0 : VEnv} {is : List Nat} {ee : EV} {c : M Bool} {Q : R → VEnv → Prop}
theorem Wp_forT (g : α → D) (xs : List α) (I : List α → VEnv → Prop) (hs : ∀ ys x zs e, xs = ys ++ x :: zs → I ys e → ∃ e1, SetT t (.val (g x)) e e1 ∧ Wp f e1 (forQ (I (ys ++ [x])) QS) X) (he : ∀ e, I xs e → QS .nx e) (h0 : I [] env) : Wp (forL t f (xs.map g)) env QS X := by
  refine Wp_forL (fun ds e => ∃ ys zs, xs = ys ++ zs ∧ ds = zs.map g ∧ I ys e) (fun d ds e h => ?_) (fun e h => ?_) _ env ⟨[], xs, rfl, rfl, h0⟩
  · obtain ⟨ys, zs, h1, h2, h3⟩ := h
    cases zs with
    | nil => cases h2
    | cons x zs =>
      cases h2
      obtain ⟨e1, a, b⟩ := hs ys x zs e h1 h3
      refine ⟨e1, a, Wp_mono b (fun o e h => ?_) fun _ _ h => h⟩
      unfold forQ at h ⊢
      cases o with
      | nx => exact ⟨ys ++ [x], zs, by simp [h1], rfl, h⟩
      | cnt => exact ⟨ys ++ [x], zs, by simp [h1], rfl, h⟩
      | brk => exact h
      | ret v => exact h
  · obtain ⟨ys, zs, h1, h2, h3⟩ := h
    cases zs with
    | nil => rw [List.append_nil] at h1; subst h1; exact he e h3
    | cons x zs => cases h2
theorem Wp_forN {n : Int} (I : Nat → VEnv → Prop) (hs : ∀ (k : Nat) e, (k : Int) < n → I k e → ∃ e1, SetT t (.val (.int k)) e e1 ∧ Wp f e1 (forQ (I (k + 1)) QS) X) (he : ∀ e, I n.toNat e → QS .nx e) (h0 : I 0 env) : Wp (forL t f (rangeD 0 n)) env QS X := by
  have e : rangeD 0 n = (List.range n.toNat).map fun k : Nat => D.int k := by
    unfold rangeD; rw [Int.sub_zero]; exact List.map_congr_left fun k _ => by rw [Int.zero_add]
  rw [e]
  refine Wp_forT (fun k : Nat => D.int k) (List.range n.toNat) (fun ys e => I ys.length e) (fun ys x zs e h1 h2 => ?_) (fun e h => ?_) h0
  · have hk : x = ys.length ∧ ys.length < n.toNat := by
      have h3 : (List.range n.toNat)[ys.length]? = some x := by rw [h1]; simp
      obtain ⟨h4, h5⟩ := List.getElem?_eq_some_iff.mp h3
      rw [List.length_range] at h4
      rw [List.getElem_range] at h5
      exact ⟨h5.symm, h4⟩
    obtain ⟨rfl, hk⟩ := hk
    obtain ⟨e1, a, b⟩ := hs _ e (by omega) h2
    refine ⟨e1, a, ?_⟩
    rw [List.length_append]
    exact b
  · rw [List.length_range] at h; exact he e h
theorem compQ_T (f : α → D) (g : α → D) {xs : List α} (hh : Hide is env e0) (hb : Back is env e0 env) (hl : xs.length ≤ maxLen)
    (hs : ∀ x ∈ xs, ∃ e1, SetT t (.val (f x)) e0 e1 ∧ Wp ee e1 (fun r e3 => r = .o (.val (g x)) ∧ Hide is e3 e0) (fun _ _ => False)) (q : Q (.o (oLst (xs.map g))) env) {ds : List D} (hd : ds = xs.map f := by rfl) : compQ is t yes ee Q ds env := by
  subst hd
  refine ⟨e0, hh, Wp_mono (Wp_compL (QL := fun os e => os = (xs.map g).map .val ∧ e = e0) (fun rs acc e => e = e0 ∧ ∃ ps zs, xs = ps ++ zs ∧ rs = zs.map f ∧ acc = (ps.map g).map .val) (fun d rs acc e h => ?_) (fun acc e h => ?_) (xs.map f) [] e0 ⟨rfl, [], xs, rfl, rfl, rfl⟩) (fun os e h => ?_) fun _ _ h => h.elim⟩
  · obtain ⟨rfl, ps, zs, h1, h2, rfl⟩ := h
    cases zs with
    | nil => cases h2
    | cons x zs =>
      cases h2
      obtain ⟨e1, h2, h3⟩ := hs x (by rw [h1]; simp)
      refine ⟨e1, h2, Wp_yes ⟨fun _ => Wp_mono h3 (fun r e3 h => ?_) fun _ _ h => h, fun h => by cases h⟩⟩
      obtain ⟨rfl, h4⟩ := h
      refine ⟨_, e3, e, .o, ?_, h4, rfl, ps ++ [x], zs, by simp [h1], rfl, by simp⟩
      have := congrArg List.length h1
      simp at this ⊢
      omega
  · obtain ⟨rfl, ps, zs, h1, h2, rfl⟩ := h
    cases zs with
    | nil => rw [List.append_nil] at h1; subst h1; exact ⟨rfl, rfl⟩
    | cons x zs => cases h2
  · obtain ⟨rfl, rfl⟩ := h
    exact ⟨env, hb, q⟩
theorem compQ_TF (f : α → D) (g : α → D) (p : α → Bool) {xs : List α} (hh : Hide is env e0) (hb : Back is env e0 env) (hl : xs.length ≤ maxLen)
    (hs : ∀ x ∈ xs, ∃ e1, SetT t (.val (f x)) e0 e1 ∧ Wp c e1 (fun b e2 => b = p x ∧ (p x = true → Wp ee e2 (fun r e3 => r = .o (.val (g x)) ∧ Hide is e3 e0) (fun _ _ => False)) ∧ (p x = false → Hide is e2 e0)) (fun _ _ => False)) (q : Q (.o (oLst ((xs.filter p).map g))) env) {ds : List D} (hd : ds = xs.map f := by rfl) : compQ is t c ee Q ds env := by
  subst hd
  refine ⟨e0, hh, Wp_mono (Wp_compL (QL := fun os e => os = ((xs.filter p).map g).map .val ∧ e = e0) (fun rs acc e => e = e0 ∧ ∃ ps zs, xs = ps ++ zs ∧ rs = zs.map f ∧ acc = ((ps.filter p).map g).map .val) (fun d rs acc e h => ?_) (fun acc e h => ?_) (xs.map f) [] e0 ⟨rfl, [], xs, rfl, rfl, rfl⟩) (fun os e h => ?_) fun _ _ h => h.elim⟩
  · obtain ⟨rfl, ps, zs, h1, h2, rfl⟩ := h
    cases zs with
    | nil => cases h2
    | cons x zs =>
      cases h2
      obtain ⟨e1, h2, h3⟩ := hs x (by rw [h1]; simp)
      refine ⟨e1, h2, Wp_mono h3 (fun b e2 h => ?_) fun _ _ h => h⟩
      obtain ⟨rfl, ha, hb⟩ := h
      refine ⟨fun hp => Wp_mono (ha hp) (fun r e3 h => ?_) fun _ _ h => h, fun hp => ⟨e, hb hp, rfl, ps ++ [x], zs, by simp [h1], rfl, by simp [hp]⟩⟩
      obtain ⟨rfl, h4⟩ := h
      refine ⟨_, e3, e, .o, ?_, h4, rfl, ps ++ [x], zs, by simp [h1], rfl, by simp [hp]⟩
      have h6 := congrArg List.length h1
      have h7 := List.length_filter_le p ps
      simp at h6 ⊢
      omega
  · obtain ⟨rfl, ps, zs, h1, h2, rfl⟩ := h
    cases zs with
    | nil => rw [List.append_nil] at h1; subst h1; exact ⟨rfl, rfl⟩
    | cons x zs => cases h2
  · obtain ⟨rfl, rfl⟩ := h
    exact ⟨env, hb, q⟩
theorem rangeD_nat (n : Int) : rangeD 0 n = (List.range n.toNat).map fun k : Nat => D.int k := by
  unfold rangeD; rw [Int.sub_zero]; exact List.map_congr_left fun k _ => by rw [Int.zero_add]
theorem compQ_N (g : Nat → D) {n : Int} (hh : Hide is env e0) (hb : Back is env e0 env) (hl : n ≤ maxLen)
    (hs : ∀ k : Nat, (k : Int) < n → ∃ e1, SetT t (.val (.int k)) e0 e1 ∧ Wp ee e1 (fun r e3 => r = .o (.val (g k)) ∧ Hide is e3 e0) (fun _ _ => False)) (q : Q (.o (oLst ((List.range n.toNat).map g))) env) : compQ is t yes ee Q (rangeD 0 n) env := by
  rw [rangeD_nat]
  exact compQ_T (fun k : Nat => D.int k) g hh hb (by rw [List.length_range]; unfold maxLen at *; omega) (fun k hk => hs k (by have := List.mem_range.mp hk; omega)) q
theorem compQ_TO (f : α → D) (g : α → O) {xs : List α} (hh : Hide is env e0) (hb : Back is env e0 env) (hl : xs.length ≤ maxLen)
    (hs : ∀ x ∈ xs, ∃ e1, SetT t (.val (f x)) e0 e1 ∧ Wp ee e1 (fun r e3 => r = .o (g x) ∧ Hide is e3 e0) (fun _ _ => False)) (q : Q (.o (.lst (xs.map g))) env) {ds : List D} (hd : ds = xs.map f := by rfl) : compQ is t yes ee Q ds env := by
  subst hd
  refine ⟨e0, hh, Wp_mono (Wp_compL (QL := fun os e => os = xs.map g ∧ e = e0) (fun rs acc e => e = e0 ∧ ∃ ps zs, xs = ps ++ zs ∧ rs = zs.map f ∧ acc = ps.map g) (fun d rs acc e h => ?_) (fun acc e h => ?_) (xs.map f) [] e0 ⟨rfl, [], xs, rfl, rfl, rfl⟩) (fun os e h => ?_) fun _ _ h => h.elim⟩
  · obtain ⟨rfl, ps, zs, h1, h2, rfl⟩ := h
    cases zs with
    | nil => cases h2
    | cons x zs =>
      cases h2
      obtain ⟨e1, h2, h3⟩ := hs x (by rw [h1]; simp)
      refine ⟨e1, h2, Wp_yes ⟨fun _ => Wp_mono h3 (fun r e3 h => ?_) fun _ _ h => h, fun h => by cases h⟩⟩
      obtain ⟨rfl, h4⟩ := h
      refine ⟨_, e3, e, .o, ?_, h4, rfl, ps ++ [x], zs, by simp [h1], rfl, by simp⟩
      have := congrArg List.length h1
      simp at this ⊢
      omega
  · obtain ⟨rfl, ps, zs, h1, h2, rfl⟩ := h
    cases zs with
    | nil => rw [List.append_nil] at h1; subst h1; exact ⟨rfl, rfl⟩
    | cons x zs => cases h2
  · obtain ⟨rfl, rfl⟩ := h
    exact ⟨env, hb, q⟩
theorem compQ_TH {β : Type} (E E0 : Hand → VEnv) (f : α → D) (g : β → O) (P : α → β → Prop) {xs : List α} (hh : ∀ h, Hide is (E h) (E0 h)) (hb : ∀ h h', Back is (E h) (E0 h') (E h')) (hl : xs.length ≤ maxLen) {h : Hand}
    (hs : ∀ x ∈ xs, ∀ h : Hand, ∃ e1, SetT t (.val (f x)) (E0 h) e1 ∧ Wp ee e1 (fun r e3 => ∃ y h', r = .o (g y) ∧ P x y ∧ Hide is e3 (E0 h')) (fun _ _ => False)) (q : ∀ (ys : List β) (h' : Hand), ys.length = xs.length → (∀ (k : Nat) (x : α) (y : β), xs[k]? = some x → ys[k]? = some y → P x y) → Q (.o (.lst (ys.map g))) (E h')) {ds : List D} (hd : ds = xs.map f := by rfl) : compQ is t yes ee Q ds (E h) := by
  subst hd
  refine ⟨E0 h, hh h, Wp_mono (Wp_compL (QL := fun os e => ∃ (ys : List β) (h' : Hand), os = ys.map g ∧ e = E0 h' ∧ ys.length = xs.length ∧ ∀ (k : Nat) (x : α) (y : β), xs[k]? = some x → ys[k]? = some y → P x y) (fun rs acc e => ∃ (ps zs : List α) (ys : List β) (h' : Hand), e = E0 h' ∧ xs = ps ++ zs ∧ rs = zs.map f ∧ acc = ys.map g ∧ ys.length = ps.length ∧ ∀ (k : Nat) (x : α) (y : β), ps[k]? = some x → ys[k]? = some y → P x y) (fun d rs acc e h => ?_) (fun acc e h => ?_) (xs.map f) [] (E0 h) ⟨[], xs, [], h, rfl, rfl, rfl, rfl, rfl, fun k d y h => by simp at h⟩) (fun os e h0 => ?_) fun _ _ h => h.elim⟩
  · obtain ⟨ps, zs, ys, h', rfl, h1, h2, rfl, h3, h4⟩ := h
    cases zs with
    | nil => cases h2
    | cons x zs =>
      cases h2
      obtain ⟨e1, h5, h6⟩ := hs x (by rw [h1]; simp) h'
      refine ⟨e1, h5, Wp_yes ⟨fun _ => Wp_mono h6 (fun r e3 h => ?_) fun _ _ h => h, fun h => by cases h⟩⟩
      obtain ⟨y, h'', rfl, hp, h7⟩ := h
      refine ⟨_, e3, E0 h'', .o, ?_, h7, ps ++ [x], zs, ys ++ [y], h'', rfl, by simp [h1], rfl, by simp, by simp [h3], fun k d' y' hd hy => ?_⟩
      · have := congrArg List.length h1
        simp at this ⊢
        omega
      · by_cases hk : k < ps.length
        · rw [List.getElem?_append_left hk] at hd
          rw [List.getElem?_append_left (by omega)] at hy
          exact h4 k d' y' hd hy
        · have : k = ps.length := by
            have := (List.getElem?_eq_some_iff.mp hd).1
            simp at this
            omega
          subst this
          rw [List.getElem?_append_right (Nat.le_refl _), Nat.sub_self] at hd
          rw [← h3, List.getElem?_append_right (Nat.le_refl _), Nat.sub_self] at hy
          cases hd
          cases hy
          exact hp
  · obtain ⟨ps, zs, ys, h', rfl, h1, h2, rfl, h3, h4⟩ := h
    cases zs with
    | nil => rw [List.append_nil] at h1; subst h1; exact ⟨ys, h', rfl, rfl, h3, h4⟩
    | cons x zs => cases h2
  · obtain ⟨ys, h', rfl, rfl, h1, h2⟩ := h0
    exact ⟨E h', hb h h', q ys h' h1 h2⟩
end
end VS
namespace VS
theorem dataK_lst (ks : List (D × O)) : dataK ks = ks.map fun p => (p.1, p.2.data) := dataK_map ks
section
variable {env e1 : VEnv} {Q : R → VEnv → Prop} {X : Exc → VEnv → Prop}
theorem callQ_go {ms : List Bool} {gf : Fn} {rs : List R} {os : List O} (ha : Args ms rs env os) (ok : okSlots ms rs = true) (h : FS gf os (fun x os' => (borSlots ms rs = [] ∨ (FRes.ret x os').clean ms = true) ∧ ∃ e', Puts ms rs os' env e' ∧ Q (.o x) e') (fun x os' => (borSlots ms rs = [] ∨ (FRes.ex x os').clean ms = true) ∧ ∃ e', Puts ms rs os' env e' ∧ X x e')) : callQ ms gf Q X rs env := by
  unfold callQ
  have aux : ∀ {b : Bool} {l : List Nat}, (l = [] ∨ b = true) → (l.isEmpty || b) = true := fun {b l} h => by
    rcases h with rfl | rfl
    · rfl
    · rw [Bool.or_true]
  exact ⟨os, ha, ok, FS_mono h (fun x os' h => ⟨aux h.1, h.2⟩) fun x os' h => ⟨aux h.1, h.2⟩⟩
theorem cleans_iff (os : List O) : cleans os = true ↔ ∀ o ∈ os, o.clean = true := by
  induction os with
  | nil => simp [cleans]
  | cons o os ih => simp [cleans, ih]
theorem vals_some : ∀ {os : List O} {ds : List D}, vals os = some ds → os = ds.map .val
  | [], ds, h => by cases h; rfl
  | .val d :: os, ds, h => by
    unfold vals at h
    obtain ⟨r, hr, rfl⟩ := Option.map_eq_some_iff.mp h
    rw [List.map_cons, ← vals_some hr]
  | .lst _ :: _, _, h => by cases h
  | .tup _ :: _, _, h => by cases h
  | .dct _ _ :: _, _, h => by cases h
  | .ins _ _ :: _, _, h => by cases h
theorem map_val_data (ds : List D) : (ds.map O.val).map (fun o => O.val o.data) = ds.map .val := by
  rw [List.map_map]; rfl
theorem Ops_ixA {i : Nat} {k : Int} {os : List O} {o : O} (h : env[i]? = some (.loc (.lst os))) (h2 : atD os k = some o) (u : Upd env i (.loc (.lst (os.map fun o => .val o.data))) e1) (q : Q (.o (.val o.data)) e1) : Ops gIx2 [.b i, .o (.val (.int k))] Q env := by
  have h3 : env.at i = some (.lst os) := by unfold VEnv.at; rw [h]
  cases hv : vals os with
  | none =>
    refine Ops_mk ?_ q
    unfold gIx2 gIx opOr opIx opIxT opIxB
    simp [R.items, R.data, R.own, O.data, h, h3, hv, h2, u.set]
  | some ds =>
    have := vals_some hv
    subst this
    have e : e1 = env := by
      have := u.set
      rw [map_val_data] at this
      rw [← this]
      refine List.ext_getElem? fun j => ?_
      by_cases hj : i = j
      · subst hj
        rw [h]
        rw [List.getElem?_set_self (List.getElem?_eq_some_iff.mp h).1]
      · rw [List.getElem?_set_ne hj]
    subst e
    rw [atD_map] at h2
    obtain ⟨d, hd, rfl⟩ := Option.map_eq_some_iff.mp h2
    exact Ops_ix (Items.b2 h3 (vals_map' ds)) hd q
theorem isIns_and {cn m : Nat} {r : R} {P : Prop} (h : isInsR cn m r env = true) (q : P) : isInsR cn m r env = true ∧ P := ⟨h, q⟩
end
theorem clean_val {d : D} : (O.val d).clean = d.imm := rfl
theorem oLst_clean_ints (ns : List Int) : (oLst (ns.map .int)).clean = true := by rw [oLst_clean]; exact imms_ints ns
theorem oLst_clean_words (ns : List (List Int)) : (oLst (ns.map wD)).clean = true := by rw [oLst_clean]; exact imms_words ns
theorem oLst_clean_pairs (ns : List (Int × List Int)) : (oLst (ns.map pD)).clean = true := by rw [oLst_clean]; exact imms_pairs ns
end VS
namespace VS
theorem Wp_make {n : Nat} {ms : List Bool} {g : Fn} {as : List EV} {env : VEnv} {Q : R → VEnv → Prop} {X : Exc → VEnv → Prop} (h : Wp (eArgs as) env (callQ ms (mkFn n g) Q X) X) : Wp (eMake n ms g as) env Q X := by
  unfold eMake
  exact Wp_call h
end VS
namespace VS.K16
open VS
def code_at_odds_r1 : SV1 := sRet (eC .non)
def code_at_odds_r2 : SV1 := sSeq (sAsg (.name 2) (eOp (opS fMin2) (eArgs [eOp (opS fLen) (eArgs [eOp2 gIx2 (eVar 0) (eC (.int 1))]), eOp (opS fLen) (eArgs [eOp2 gIx2 (eVar 1) (eC (.int 1))])]))) (sSeq (sIf (eTest (eOp2 (opS fEq) (eSlice (eOp2 gIx2 (eVar 0) (eC (.int 1))) eNoPart (ePart (eVar 2))) (eSlice (eOp2 gIx2 (eVar 1) (eC (.int 1))) eNoPart (ePart (eVar 2))))) (sRet (eC (.str [98, 101, 103, 105, 110, 115]))) (sNext)) (code_at_odds_r1))
def code_at_odds : SV1 := sSeq (sIf (eTest (eOp2 (opS fEq) (eOp2 gIx2 (eVar 0) (eC (.int 0))) (eOp2 gIx2 (eVar 1) (eC (.int 0))))) (sRet (eC (.str [116, 119, 105, 99, 101]))) (sNext)) (code_at_odds_r2)
def sem_at_odds : Fn := fnSem [false, false] 1 code_at_odds
def code_by_word : SV1 := sRet (eOp2 gIx2 (eVar 0) (eC (.int 1)))
def sem_by_word : Fn := fnSem [false] 0 code_by_word
def code_Code_live : SV1 := sSeq (sAsg (.name 2) (eOp opTuple (eArgs [eVar 1]))) (sRet (eOp (opS fAny) (eArgs [eComp [3] (itKeysF 0 1 0) (.name 3) (yes) (eAndV (eOp2 (opS fLt) (eOp (opS fLen) (eArgs [eVar 2])) (eOp (opS fLen) (eArgs [eVar 3]))) (eOp2 (opS fEq) (eSlice (eVar 3) eNoPart (ePart (eOp (opS fLen) (eArgs [eVar 2])))) (eVar 2)))])))
def sem_Code_live : Fn := fnSem [false, false] 2 code_Code_live
def code_law_open_r1 : SV1 := sRet (eOp opLst (eArgs [eVar 4, eOp2 gAdd (eC (.int 1)) (eOp2 gMul (eC (.int 101)) (eVar 1)), eOp2 gAdd (eSlice (eVar 2) (ePart (eVar 3)) eNoPart) (eSlice (eVar 2) eNoPart (ePart (eVar 3)))]))
def code_law_open_r2 : SV1 := sSeq (sAsg (.name 3) (eOp2 (opS fMod) (eVar 1) (eOp (opS fLen) (eArgs [eVar 2])))) (sSeq (sAsg (.name 4) (eC (.int 0))) (sSeq (sIf (eAnd (eTest (eOp2 (opS fGe) (eOp2 gIx2 (eVar 2) (eVar 3)) (eOp2 (opS fPow) (eC (.int 10)) (eC (.int 18))))) (eTest (eOp2 (opS fLt) (eVar 1) (eOp (opS fLen) (eArgs [eVar 2]))))) (sAsg (.name 4) (eOp2 gIx2 (eVar 2) (eVar 3))) (sNext)) (code_law_open_r1)))
def code_law_open : SV1 := sSeq (sAsg (.name 2) (eComp [5] (itAny (eSlice (eVar 0) eNoPart (ePart (eC (.int 63))))) (.name 5) (yes) (eOp (opS fAbs) (eArgs [eVar 5])))) (sSeq (sIf (eTest (eOp2 (opS fEq) (eVar 2) (eOp opLst (eArgs [])))) (sAsg (.name 2) (eOp opLst (eArgs [eC (.int 0)]))) (sNext)) (code_law_open_r2))
def sem_law_open : Fn := fnSem [false, false] 4 code_law_open
def code_law_draw_r1 : SV1 := sSeq (sAugIx 0 (eC (.int 1)) fAddI (eC (.int 1))) (sSeq (sAsg (.name 2) (eOp2 (opS fMod) (ePure (qIx (qIx (qVar 0) (qC (.int 2))) (qOp2 fMod (qIx (qVar 0) (qC (.int 1))) (qOp1 fLen (qIx (qVar 0) (qC (.int 2))))))) (eC (.int 2147483647)))) (sSeq (sAsg (.name 3) (eOp2 (opS fMod) (eOp2 gAdd (eOp2 gAdd (eOp2 gMul (eVar 2) (eC (.int 48271))) (eOp2 gMul (ePure (qIx (qVar 0) (qC (.int 1)))) (eC (.int 7368787)))) (eC (.int 11))) (eC (.int 998244353)))) (sSeq (sAsg (.name 3) (eOp2 (opS fMod) (eOp2 gAdd (eOp2 gMul (eVar 3) (eVar 3)) (ePure (qIx (qVar 0) (qC (.int 1))))) (eC (.int 998244353)))) (sSeq (sAsg (.name 3) (eOp2 (opS fMod) (eOp2 gAdd (eOp2 gMul (eVar 3) (eC (.int 40503203))) (eC (.int 12345))) (eC (.int 2147483647)))) (sRet (eOp2 (opS fMod) (eOp2 (opS fDiv) (eOp2 (opS fMod) (eOp2 gMul (eVar 3) (eVar 3)) (eC (.int 1000000007))) (eC (.int 64))) (eVar 1)))))))
def code_law_draw : SV1 := sSeq (sIf (eTest (eOp2 (opS fGt) (ePure (qIx (qVar 0) (qC (.int 0)))) (eC (.int 0)))) (sSeq (sAsg (.name 4) (eOp2 (opS fMod) (ePure (qIx (qVar 0) (qC (.int 0)))) (eVar 1))) (sSeq (sSetIx 0 (eOp2 (opS fDiv) (ePure (qIx (qVar 0) (qC (.int 0)))) (eVar 1)) (eC (.int 0))) (sRet (eVar 4)))) (sNext)) (code_law_draw_r1)
def sem_law_draw : Fn := fnSem [true, false] 3 code_law_draw
def code_law_due_b1 : SV1 := sIf (eAnd (eTest (eOp2 (opS fGt) (eOp (opS fLen) (eArgs [eVar 2])) (eOp (opS fLen) (eArgs [eVar 1])))) (eTest (eOp (opS fAll) (eArgs [eComp [3] (itRange1 (eOp (opS fLen) (eArgs [eVar 1]))) (.name 3) (yes) (eOp2 (opS fEq) (eOp2 gIx2 (eVar 2) (eVar 3)) (eOp2 gIx2 (eVar 1) (eVar 3)))])))) (sRet (eC (.bl true))) (sNext)
def code_law_due_r1 : SV1 := sRet (eC (.bl false))
def code_law_due : SV1 := sSeq (sFor (itAny (eVar 0)) (.name 2) (code_law_due_b1)) (code_law_due_r1)
def sem_law_due : Fn := fnSem [false, false] 2 code_law_due
def code_fault_b1 : SV1 := sSeq (sAsg (.name 3) (eCall [false, false] sem_at_odds [eOp2 gIx2 (eVar 0) (eVar 2), eOp2 gIx2 (eVar 0) (eVar 1)])) (sIf (eTest (eOp2 (opS fIsNot) (eVar 3) (eC .non))) (sRet (eOp opTup (eArgs [eVar 3, eVar 2, eVar 1]))) (sNext))
def code_fault_b2 : SV1 := sFor (itRange1 (eVar 1)) (.name 2) (code_fault_b1)
def code_fault_r1 : SV1 := sRet (eC .non)
def code_fault : SV1 := sSeq (sFor (itRange1 (eOp (opS fLen) (eArgs [eVar 0]))) (.name 1) (code_fault_b2)) (code_fault_r1)
def sem_fault : Fn := fnSem [false] 3 code_fault
def code_law_bytes : SV1 := sSeq (sAsg (.name 2) (eCall [true, false] sem_law_draw [eVar 0, eC (.int 256)])) (sSeq (sAsg (.name 3) (eOp2 gAdd (eC (.int 1)) (eCall [true, false] sem_law_draw [eVar 0, eC (.int 60)]))) (sRet (eComp [4] (itRange1 (eOp2 gAdd (eC (.int 2)) (eCall [true, false] sem_law_draw [eVar 0, eOp2 (opS fSub) (eVar 1) (eC (.int 1))]))) (.name 4) (yes) (eOp2 (opS fMod) (eOp2 gAdd (eVar 2) (eOp2 gMul (eVar 3) (eVar 4))) (eC (.int 256))))))
def sem_law_bytes : Fn := fnSem [true, false] 3 code_law_bytes
def code_law_words_b1 : SV1 := sSeq (sAsg (.name 6) (eOp2 (opS fMod) (eCall [true, false] sem_law_draw [eVar 0, eC (.int 60)]) (eOp (opS fLen) (eArgs [eVar 4])))) (sIf (eTest (eOp2 (opS fLt) (eOp (opS fLen) (eArgs [eOp2 gIx2 (eVar 4) (eVar 6)])) (eVar 3))) (sAsg (.name 4) (eOp2 gAdd (eOp2 gAdd (eSlice (eVar 4) eNoPart (ePart (eVar 6))) (eComp [7] (itAny (eVar 1)) (.name 7) (yes) (eOp2 gAdd (eOp2 gIx2 (eVar 4) (eVar 6)) (eOp opTup (eArgs [eVar 7]))))) (eSlice (eVar 4) (ePart (eOp2 gAdd (eVar 6) (eC (.int 1)))) eNoPart))) (sNext))
def code_law_words_r1 : SV1 := sRet (eComp [8] (itAny (eVar 4)) (.name 8) (eTest (eOp2 (opS fGt) (eCall [true, false] sem_law_draw [eVar 0, eC (.int 5)]) (eC (.int 0)))) (eVar 8))
def code_law_words : SV1 := sSeq (sAsg (.name 4) (eComp [7] (itAny (eVar 1)) (.name 7) (yes) (eOp opTup (eArgs [eVar 7])))) (sSeq (sFor (itRange1 (eCall [true, false] sem_law_draw [eVar 0, eOp2 gAdd (eVar 2) (eC (.int 1))])) (.name 5) (code_law_words_b1)) (code_law_words_r1))
def sem_law_words : Fn := fnSem [true, false, false, false] 5 code_law_words
def code_law_signs_r1 : SV1 := sRet (eVar 4)
def code_law_signs : SV1 := sSeq (sAsg (.name 2) (eOp2 gMul (eOp (opS fInt) (eArgs [eOp2 (opS fGt) (eCall [true, false] sem_law_draw [eVar 0, eC (.int 4)]) (eC (.int 0))])) (eOp2 gAdd (eOp2 gMul (eCall [true, false] sem_law_draw [eVar 0, eC (.int 500)]) (eOp2 (opS fPow) (eC (.int 10)) (eC (.int 6)))) (eCall [true, false] sem_law_draw [eVar 0, eC (.int 1000000)])))) (sSeq (sAsg (.name 3) (eOp2 gAdd (eC (.int 1)) (eOp2 gIx2 (eOp opLst (eArgs [eC (.int 0), eCall [true, false] sem_law_draw [eVar 0, eC (.int 40)], eCall [true, false] sem_law_draw [eVar 0, eOp2 (opS fPow) (eC (.int 10)) (eC (.int 7))]])) (eCall [true, false] sem_law_draw [eVar 0, eC (.int 3)])))) (sSeq (sAsg (.name 4) (eComp [6] (itRange1 (eVar 1)) (.name 6) (yes) (eOp2 gAdd (eVar 2) (eOp2 gMul (eVar 3) (eVar 6))))) (sSeq (sAsg (.name 5) (eOp2 (opS fMod) (eCall [true, false] sem_law_draw [eVar 0, eC (.int 60)]) (eOp (opS fMax2) (eArgs [eC (.int 1), eVar 1])))) (sSeq (sAsg (.name 4) (eOp2 gAdd (eSlice (eVar 4) (ePart (eVar 5)) eNoPart) (eSlice (eVar 4) eNoPart (ePart (eVar 5))))) (sSeq (sIf (eTest (eOp2 (opS fEq) (eCall [true, false] sem_law_draw [eVar 0, eC (.int 2)]) (eC (.int 0)))) (sRet (eOp1 opRev (eVar 4))) (sNext)) (code_law_signs_r1))))))
def sem_law_signs : Fn := fnSem [true, false] 5 code_law_signs
def code_law_table_r1 : SV1 := sRet (eVar 5)
def code_law_table : SV1 := sSeq (sAsg (.name 3) (eOp2 (opS fMod) (eCall [true, false] sem_law_draw [eVar 0, eC (.int 60)]) (eOp (opS fMax2) (eArgs [eC (.int 1), eOp (opS fLen) (eArgs [eVar 2])])))) (sSeq (sAsg (.name 4) (eOp2 gAdd (eSlice (eVar 2) (ePart (eVar 3)) eNoPart) (eSlice (eVar 2) eNoPart (ePart (eVar 3))))) (sSeq (sAsg (.name 5) (eComp [6] (itRange1 (eOp (opS fLen) (eArgs [eVar 1]))) (.name 6) (yes) (eOp opTup (eArgs [eOp2 gIx2 (eVar 4) (eVar 6), eOp2 gIx2 (eVar 1) (eVar 6)])))) (sSeq (sIf (eTest (eOp2 (opS fEq) (eCall [true, false] sem_law_draw [eVar 0, eC (.int 2)]) (eC (.int 0)))) (sRet (eOp1 opRev (eVar 5))) (sNext)) (code_law_table_r1))))
def sem_law_table : Fn := fnSem [true, false, false] 4 code_law_table
def code_law_row_r1 : SV1 := sRet (eVar 5)
def code_law_row_r2 : SV1 := sSeq (sIf (eAnd (eTest (eOp2 (opS fEq) (eVar 3) (eC (.int 2)))) (eTest (eOp2 (opS fNe) (eVar 5) (eOp opLst (eArgs []))))) (sSetIx 5 (eCall [true, false] sem_law_draw [eVar 0, eC (.int 256)]) (eCall [true, false] sem_law_draw [eVar 0, eOp (opS fLen) (eArgs [eVar 5])])) (sNext)) (code_law_row_r1)
def code_law_row_r3 : SV1 := sSeq (sAsg (.name 4) (eOp opList (eArgs [eOp2 gIx2 (eVar 2) (eOp2 (opS fMod) (eCall [true, false] sem_law_draw [eVar 0, eC (.int 60)]) (eOp (opS fLen) (eArgs [eVar 2])))]))) (sSeq (sAsg (.name 5) (eSlice (eVar 4) eNoPart (ePart (eCall [true, false] sem_law_draw [eVar 0, eOp2 gAdd (eOp (opS fLen) (eArgs [eVar 4])) (eC (.int 1))])))) (sSeq (sIf (eTest (eOp2 (opS fEq) (eVar 3) (eC (.int 1)))) (sAsg (.name 5) (eOp2 gAdd (eVar 4) (eOp opLst (eArgs [eOp2 gIx2 (eVar 1) (eOp2 (opS fMod) (eCall [true, false] sem_law_draw [eVar 0, eC (.int 60)]) (eOp (opS fLen) (eArgs [eVar 1])))])))) (sNext)) (code_law_row_r2)))
def code_law_row : SV1 := sSeq (sAsg (.name 3) (eCall [true, false] sem_law_draw [eVar 0, eC (.int 6)])) (sSeq (sIf (eOr (eTest (eOp2 (opS fEq) (eVar 3) (eC (.int 0)))) (eTest (eOp2 (opS fEq) (eVar 2) (eOp opLst (eArgs []))))) (sRet (eComp [6] (itRange1 (eCall [true, false] sem_law_draw [eVar 0, eC (.int 5)])) (.name 6) (yes) (eOp2 gIx2 (eVar 1) (eOp2 (opS fMod) (eCall [true, false] sem_law_draw [eVar 0, eC (.int 60)]) (eOp (opS fLen) (eArgs [eVar 1])))))) (sNext)) (code_law_row_r3))
def sem_law_row : Fn := fnSem [true, false, false] 4 code_law_row
def code_Code___init___b1 : SV1 := sSeq (sSetK (plFld 0 3 (plVar 0)) (qVar 3) (eVar 4)) (sSetK (plFld 0 1 (plVar 0)) (qVar 4) (eVar 3))
def code_Code___init___r1 : SV1 := sSeq (sSetF (plVar 0) 0 2 (eOp opSortSnd (eArgs [eVar 1]))) (sSeq (sSetF (plVar 0) 0 3 (eDict0 false)) (sSeq (sSetF (plVar 0) 0 1 (eDict0 true)) (sFor (itAny (eOp1 (opFld 0 2) (eVar 0))) (.tup [.name 3, .name 4]) (code_Code___init___b1))))
def code_Code___init___r2 : SV1 := sSeq (sIf (eTest (eOp2 (opS fIsNot) (eVar 2) (eC .non))) (M.fail) (sNext)) (code_Code___init___r1)
def code_Code___init__ : SV1 := sSeq (sAsg (.name 2) (eCall [false] sem_fault [eVar 1])) (sSeq (sIf (eAnd (eTest (eOp2 (opS fIsNot) (eVar 2) (eC .non))) (eTest (eOp2 (opS fEq) (eOp2 gIx2 (eVar 2) (eC (.int 0))) (eC (.str [116, 119, 105, 99, 101]))))) (M.fail) (sNext)) (code_Code___init___r2))
def sem_Code___init__ : Fn := fnSem [true, false] 3 code_Code___init__
def code_law_some_r1 : SV1 := sRet (eVar 1)
def code_law_some : SV1 := sSeq (sAsg (.name 1) (eCall [true, false] sem_law_bytes [eVar 0, eC (.int 4)])) (sSeq (sIf (eTest (eOp2 (opS fEq) (eCall [true, false] sem_law_draw [eVar 0, eC (.int 4)]) (eC (.int 0)))) (sAsg (.name 1) (eComp [2] (itRange1 (eOp2 gAdd (eC (.int 5)) (eCall [true, false] sem_law_draw [eVar 0, eC (.int 14)]))) (.name 2) (yes) (eOp2 (opS fMod) (eOp2 gAdd (eOp2 gIx2 (eVar 1) (eC (.int 0))) (eOp2 gMul (eC (.int 13)) (eVar 2))) (eC (.int 256))))) (sNext)) (code_law_some_r1))
def sem_law_some : Fn := fnSem [true] 2 code_law_some
def code_law_leaves_r1 : SV1 := sRet (eCall [true, false, false, false] sem_law_words [eVar 0, eVar 1, eC (.int 6), eC (.int 4)])
def code_law_leaves : SV1 := sSeq (sIf (eTest (eOp2 (opS fGt) (eOp (opS fLen) (eArgs [eVar 1])) (eC (.int 4)))) (sRet (eSlice (eCall [true, false, false, false] sem_law_words [eVar 0, eVar 1, eC (.int 1), eC (.int 2)]) eNoPart (ePart (eC (.int 24))))) (sNext)) (code_law_leaves_r1)
def sem_law_leaves : Fn := fnSem [true, false] 0 code_law_leaves
def code_law_r1 : SV1 := sDrop (eLm 10 (eArgs [eOp2 gIx2 (eVar 2) (eC (.int 0))]) (lmAppend 10))
def code_law_b1 : SV1 := sSeq (sAsg (.name 10) (eOp opList (eArgs [eVar 7]))) (sSeq (sAsg (.name 11) (eMeth 0 4 [false, false] sem_Code_live (eOp2 gIx2 (eVar 5) (eVar 9)) [eVar 10])) (sSeq (sIf (eOr (eNot (eTest (eOp1 (opS (fIsT .bool)) (eVar 11)))) (eOr (eTest (eOp2 (opS fNe) (eVar 11) (eCall [false, false] sem_law_due [eOp2 gIx2 (eVar 3) (eVar 9), eVar 7]))) (eTest (eOp2 (opS fNe) (eVar 10) (eVar 7))))) (sRet (eC (.bl false))) (sNext)) (code_law_r1)))
def code_law_r2 : SV1 := sSeq (sAsg (.name 8) (eCall [true, false] sem_law_draw [eVar 1, eC (.int 2)])) (sFor (itAny (eOp opTup (eArgs [eVar 8, eOp2 (opS fSub) (eC (.int 1)) (eVar 8), eVar 8]))) (.name 9) (code_law_b1))
def code_law_b2 : SV1 := sSeq (sAsg (.name 1) (eCall [false, false] sem_law_open [eVar 0, eVar 6])) (sSeq (sAsg (.name 7) (eCall [true, false, false] sem_law_row [eVar 1, eVar 2, eOp2 gAdd (eOp2 gIx2 (eVar 3) (eC (.int 0))) (eOp2 gIx2 (eVar 3) (eC (.int 1)))])) (sSeq (sIf (eAnd (eTest (eOp2 (opS fEq) (eVar 6) (eC (.int 1)))) (eTest (eOp2 (opS fEq) (eCall [true, false] sem_law_draw [eVar 1, eC (.int 8)]) (eC (.int 7))))) (sAsg (.name 7) (eSlice (eOp2 gMul (eVar 7) (eC (.int 200))) eNoPart (ePart (eC (.int 800))))) (sNext)) (code_law_r2)))
def code_law_r3 : SV1 := sRet (eC (.bl true))
def code_law : SV1 := sSeq (sAsg (.name 1) (eCall [false, false] sem_law_open [eVar 0, eC (.int 0)])) (sSeq (sAsg (.name 2) (eCall [true] sem_law_some [eVar 1])) (sSeq (sAsg (.name 3) (eComp [9] (itRange1 (eC (.int 2))) (.name 9) (yes) (eCall [true, false] sem_law_leaves [eVar 1, eVar 2]))) (sSeq (sAsg (.name 4) (eCall [true, false] sem_law_signs [eVar 1, eOp2 gAdd (eOp (opS fMax2) (eArgs [eOp (opS fLen) (eArgs [eOp2 gIx2 (eVar 3) (eC (.int 0))]), eOp (opS fLen) (eArgs [eOp2 gIx2 (eVar 3) (eC (.int 1))])])) (eCall [true, false] sem_law_draw [eVar 1, eC (.int 4)])])) (sSeq (sAsg (.name 5) (eComp [12] (itAny (eVar 3)) (.name 12) (yes) (eMake 0 [false] sem_Code___init__ [eCall [true, false, false] sem_law_table [eVar 1, eVar 12, eVar 4]]))) (sSeq (sFor (itRange2 (eC (.int 1)) (eOp2 gAdd (eC (.int 1)) (eOp (opS fMax2) (eArgs [eC (.int 8), eOp (opS fMin2) (eArgs [eOp (opS fLen) (eArgs [eVar 0]), eC (.int 24)])])))) (.name 6) (code_law_b2)) (code_law_r3))))))
def sem_law : Fn := fnSem [false] 12 code_law
end VS.K16
namespace VS.K16
open VS
section
local macro_rules | `(tactic| done) => `(tactic| first
  | with_reducible refine Wp_seq ?_
  | with_reducible refine seq_nx ?_
  | with_reducible refine seq_ret ?_
  | with_reducible refine seq_brk ?_
  | with_reducible refine seq_cnt ?_
  | with_reducible refine Wp_asg ?_
  | ((with_reducible apply Wp_app); (· exact rfl))
  | with_reducible refine Wp_setIx ?_
  | ((with_reducible apply isLst_and); (· exact rfl))
  | ((with_reducible apply asg_o); (· repeat (first | exact Upd.zL | exact Upd.zN | exact Upd.zA (by assumption) | apply Upd.s)))
  | ((with_reducible apply asg_b); (· exact rfl); (· repeat (first | exact Upd.zL | exact Upd.zN | exact Upd.zA (by assumption) | apply Upd.s)); (· repeat (first | exact Upd.zL | exact Upd.zN | exact Upd.zA (by assumption) | apply Upd.s)))
  | with_reducible refine Wp_op ?_
  | with_reducible refine Wp_cons ?_
  | with_reducible refine Wp_nil ?_
  | with_reducible refine Wp_call ?_
  | ((with_reducible apply Wp_var); (· exact rfl))
  | ((with_reducible apply Wp_varB); (· exact rfl); (· exact rfl))
  | with_reducible refine Wp_c ?_
  | with_reducible refine Wp_dict0 ?_
  | ((with_reducible apply Wp_pure); (· exact rfl))
  | with_reducible refine Wp_sret ?_
  | with_reducible refine ret_o ?_
  | ((with_reducible apply ret_b); (· exact rfl); (· repeat (first | exact Upd.zL | exact Upd.zN | exact Upd.zA (by assumption) | apply Upd.s)))
  | with_reducible refine Wp_sretN ?_
  | with_reducible refine Wp_if ?_
  | with_reducible refine Wp_next ?_
  | with_reducible refine Wp_brk ?_
  | with_reducible refine Wp_cnt ?_
  | with_reducible refine Wp_drop ?_
  | with_reducible refine Wp_test ?_
  | with_reducible refine Wp_and ?_
  | with_reducible refine Wp_or ?_
  | with_reducible refine Wp_not ?_
  | with_reducible refine Wp_notV ?_
  | with_reducible refine Wp_andV ?_
  | with_reducible refine Wp_orV ?_
  | with_reducible refine Wp_ifE ?_
  | with_reducible refine Wp_yes ?_
  | with_reducible refine Wp_chain ?_
  | with_reducible refine Wp_for ?_
  | with_reducible refine Wp_slice ?_
  | with_reducible refine Wp_noPart ?_
  | with_reducible refine Wp_part ?_
  | with_reducible refine Wp_compI ?_
  | with_reducible refine Wp_range1 ?_
  | with_reducible refine Wp_range2 ?_
  | with_reducible refine Wp_anyI ?_
  | with_reducible refine any_vL ?_
  | with_reducible refine any_vT ?_
  | with_reducible refine any_oL ?_
  | with_reducible refine any_vS ?_
  | ((with_reducible apply any_bL); (· exact rfl); (· repeat (first | exact Upd.zL | exact Upd.zN | exact Upd.zA (by assumption) | apply Upd.s)))
  | with_reducible refine for_nx ?_
  | with_reducible refine for_cnt ?_
  | with_reducible refine for_brk ?_
  | with_reducible refine for_ret ?_
  | ((with_reducible apply fn_ret); (· repeat (first | exact Outs.n | apply Outs.t | apply Outs.f)))
  | ((with_reducible apply fn_nx); (· repeat (first | exact Outs.n | apply Outs.t | apply Outs.f)))
  | with_reducible refine Wp_meth ?_
  | with_reducible refine Wp_make ?_
  | ((with_reducible apply isIns_and); (· exact rfl))
  | ((with_reducible apply Ops_fld); (· exact rfl))
  | with_reducible refine Ops_add ?_
  | with_reducible refine Ops_sub ?_
  | ((with_reducible apply Ops_mul); (· first | exact .inl (by decide) | exact .inr (by decide) | with_reducible exact .inl (small_fmod (by decide) (by decide)) | with_reducible exact .inr (small_fmod (by decide) (by decide)) | exact .inl (small_of (by omega) (by omega)) | exact .inr (small_of (by omega) (by omega))))
  | ((with_reducible apply Ops_div); (· first | omega | decide); (· first | omega | decide))
  | ((with_reducible apply Ops_mod); (· first | omega | decide))
  | ((with_reducible apply Ops_powL); (· decide); (· simp only [Int.reduceToNat, Int.reducePow]; exact rfl))
  | with_reducible refine Ops_neg ?_
  | with_reducible refine Ops_abs ?_
  | with_reducible refine Ops_max2 ?_
  | with_reducible refine Ops_min2 ?_
  | with_reducible refine Ops_inS ?_
  | with_reducible refine Ops_lt ?_
  | with_reducible refine Ops_le ?_
  | with_reducible refine Ops_gt ?_
  | with_reducible refine Ops_ge ?_
  | with_reducible refine Ops_eqI ?_
  | with_reducible refine Ops_neI ?_
  | ((with_reducible apply Ops_lenT))
  | with_reducible refine Ops_lenW ?_
  | ((with_reducible apply Ops_lenN))
  | ((with_reducible apply Ops_len); (· first | exact RD.v | exact RD.ol | exact RD.b rfl | exact RD.any rfl))
  | ((with_reducible apply Ops_lenS); (· first | (unfold maxLen; omega) | (simp only [List.length_map, List.length_append, List.length_cons, List.length_nil, List.length_reverse]; unfold maxLen; omega) | decide))
  | ((with_reducible apply Ops_addS); (· first | (unfold maxLen; omega) | (simp only [List.length_map, List.length_append, List.length_cons, List.length_nil, List.length_reverse]; unfold maxLen; omega) | decide))
  | ((with_reducible apply Ops_lstV); (· repeat (first | exact RVals.n | apply RVals.c)); (· exact Nat.le_of_ble_eq_true rfl))
  | ((with_reducible apply Ops_tupV); (· repeat (first | exact RVals.n | apply RVals.c)); (· exact Nat.le_of_ble_eq_true rfl))
  | ((with_reducible apply Ops_lst); (· repeat (first | exact Settles.n | apply Settles.c Settle.o)); (· exact Nat.le_of_ble_eq_true rfl))
  | ((with_reducible apply Ops_tup); (· repeat (first | exact Settles.n | apply Settles.c Settle.o)); (· exact Nat.le_of_ble_eq_true rfl))
  | ((with_reducible apply Ops_isT); (· exact rfl); (· exact rfl))
  | ((with_reducible apply Ops_eqD); (· first | exact RD.v | exact RD.ol | exact RD.b rfl | exact RD.any rfl); (· first | exact RD.v | exact RD.ol | exact RD.b rfl | exact RD.any rfl); (· first | exact okE_ints _ | exact okE_words _ | exact okE_pairs _ | exact okE_tints _ | exact okE_w _ | exact okE_cutT _ _ _ | exact okE_cutL _ _ _ | rfl | assumption); (· first | exact okE_ints _ | exact okE_words _ | exact okE_pairs _ | exact okE_tints _ | exact okE_w _ | exact okE_cutT _ _ _ | exact okE_cutL _ _ _ | rfl | assumption))
  | ((with_reducible apply Ops_neD); (· first | exact RD.v | exact RD.ol | exact RD.b rfl | exact RD.any rfl); (· first | exact RD.v | exact RD.ol | exact RD.b rfl | exact RD.any rfl); (· first | exact okE_ints _ | exact okE_words _ | exact okE_pairs _ | exact okE_tints _ | exact okE_w _ | exact okE_cutT _ _ _ | exact okE_cutL _ _ _ | rfl | assumption); (· first | exact okE_ints _ | exact okE_words _ | exact okE_pairs _ | exact okE_tints _ | exact okE_w _ | exact okE_cutT _ _ _ | exact okE_cutL _ _ _ | rfl | assumption))
  | ((with_reducible apply Ops_isN); (· exact rfl))
  | ((with_reducible apply Ops_isNotN); (· exact rfl))
  | ((with_reducible apply Ops_cat); (· first | exact Items.ol | exact Items.vl | exact Items.vt | exact Items.b rfl | exact Items.ol2 rfl | exact Items.b2 rfl rfl); (· first | exact Items.ol | exact Items.vl | exact Items.vt | exact Items.b rfl | exact Items.ol2 rfl | exact Items.b2 rfl rfl); (· first | (unfold maxLen; omega) | (simp only [List.length_map, List.length_append, List.length_cons, List.length_nil, List.length_reverse]; unfold maxLen; omega) | decide))
  | ((with_reducible apply Ops_catT); (· first | exact Items.ol | exact Items.vl | exact Items.vt | exact Items.b rfl | exact Items.ol2 rfl | exact Items.b2 rfl rfl); (· first | exact Items.ol | exact Items.vl | exact Items.vt | exact Items.b rfl | exact Items.ol2 rfl | exact Items.b2 rfl rfl); (· first | (unfold maxLen; omega) | (simp only [List.length_map, List.length_append, List.length_cons, List.length_nil, List.length_reverse]; unfold maxLen; omega) | decide))
  | ((with_reducible apply Ops_list); (· first | exact Items.ol | exact Items.vl | exact Items.vt | exact Items.b rfl | exact Items.ol2 rfl | exact Items.b2 rfl rfl))
  | ((with_reducible apply Ops_ix); (· first | exact Items.ol | exact Items.vl | exact Items.vt | exact Items.b rfl | exact Items.ol2 rfl | exact Items.b2 rfl rfl); (· exact rfl))
  | ((with_reducible apply Ops_revL); (· first | exact Items.ol | exact Items.vl | exact Items.vt | exact Items.b rfl | exact Items.ol2 rfl | exact Items.b2 rfl rfl))
  | ((with_reducible apply Ops_revT); (· first | exact Items.ol | exact Items.vl | exact Items.vt | exact Items.b rfl | exact Items.ol2 rfl | exact Items.b2 rfl rfl))
  | with_reducible refine Ops_intI ?_
  | with_reducible refine Wp_par ?_
  | ((with_reducible apply par_oo); (· repeat (first | exact Upd.zL | exact Upd.zN | exact Upd.zA (by assumption) | apply Upd.s)); (· repeat (first | exact Upd.zL | exact Upd.zN | exact Upd.zA (by assumption) | apply Upd.s)))
  | with_reducible refine Wp_range3 ?_
  | ((with_reducible apply Ops_tuple); (· first | exact Items.ol | exact Items.vl | exact Items.vt | exact Items.b rfl | exact Items.ol2 rfl | exact Items.b2 rfl rfl))
  | ((with_reducible apply append_plain); (· exact rfl); (· first | (unfold maxLen; omega) | (simp only [List.length_map, List.length_append, List.length_cons, List.length_nil, List.length_reverse]; unfold maxLen; omega) | decide); (· repeat (first | exact Put.zL | exact Put.zP | apply Put.s)))
  | ((with_reducible apply Sl_scr))
  | ((with_reducible apply Sl_lst); (· first | exact Items.ol | exact Items.vl | exact Items.vt | exact Items.b rfl | exact Items.ol2 rfl | exact Items.b2 rfl rfl))
  | ((with_reducible apply Sl_tup); (· first | exact Items.ol | exact Items.vl | exact Items.vt | exact Items.b rfl | exact Items.ol2 rfl | exact Items.b2 rfl rfl))
  | ((with_reducible apply Sl_str); (· first | (unfold maxLen; omega) | (simp only [List.length_map, List.length_append, List.length_cons, List.length_nil, List.length_reverse]; unfold maxLen; omega) | decide))
  | ((with_reducible apply bigI_and); (· first | omega | (simp only [List.length_map, List.length_append, List.length_cons, List.length_nil, List.length_reverse]; omega)); (· first | omega | (simp only [List.length_map, List.length_append, List.length_cons, List.length_nil, List.length_reverse]; omega)))
  | (refine ⟨_, (by repeat (first | exact Put.zL | exact Put.zP | apply Put.s) : Put _ _ _ _), ?_⟩)
  | with_reducible refine ⟨_, rfl, ?_⟩
  | with_reducible refine ⟨_, _, rfl, rfl, ?_⟩
  | with_reducible refine br_t ?_
  | with_reducible refine br_f ?_
  | (with_reducible refine br_dec ?_ ?_ <;> intro _)
  | (with_reducible refine br_ndec ?_ ?_ <;> intro _)
  | with_reducible refine br_not ?_
  | ((with_reducible apply br_tr); (· exact rfl))
  | ((with_reducible apply br_fl); (· exact rfl))
  | ((with_reducible refine br_b ?_ ?_) <;> intro _))
theorem draw_fs (h : Hand) (m : Int) (hm : 0 < m) (hm2 : m < 1073741824) {Q : O → List O → Prop} {X : Exc → List O → Prop} (q : ∀ (r : Int) (h' : Hand), 0 ≤ r → r < m → Q (.val (.int r)) [h'.o, .val (.int m)]) : FS sem_law_draw [h.o, .val (.int m)] Q X := by
  refine FS_fnI (by repeat constructor) ?_
  unfold code_law_draw
  repeat' done
  · refine ⟨_, _, 0, _, 0, _, .o, rfl, rfl, rfl, Put.zP, ?_⟩
    repeat' done
    exact q _ ⟨h.d.fdiv m, h.p, h.cs, Int.fdiv_nonneg h.hd (by omega), h.hc⟩ (Int.fmod_nonneg_of_pos _ hm) (Int.fmod_lt_of_pos _ hm)
  · unfold code_law_draw_r1
    repeat' done
    refine Wp_augIx (k := 1) (x := h.p) rfl ?_
    repeat' done
    refine ⟨1, h.p, rfl, by decide, by decide, rfl, ?_⟩
    repeat' done
    refine ⟨1, _, 1, [Cell.par (.lst [.val (.int h.d), .val (.int (h.p + 1)), oLst (h.cs.map .int)]), .loc (.val (.int m)), .no, .no, .no], rfl, rfl, rfl, Put.zP, ?_⟩
    repeat' done
    have hl : 0 < h.cs.length := List.length_pos_iff.mpr h.hc
    have hne : (h.cs.length : Int) ≠ 0 := by omega
    obtain ⟨y, hy, _⟩ := atD_fmod h.cs h.hc (h.p + 1)
    refine Wp_pure (d := .int y) ?_ ?_
    · generalize he : [Cell.par (O.lst [.val (.int h.d), .val (.int (h.p + 1)), oLst (h.cs.map .int)]), .loc (.val (.int m)), .no, .no, .no] = e
      have e1 : qIx (qVar 0) (qC (.int 2)) e = some (oLst (h.cs.map .int)) := by subst he; rfl
      have e3 : qIx (qVar 0) (qC (.int 1)) e = some (.val (.int (h.p + 1))) := by subst he; rfl
      have e4 : qOp1 fLen (qIx (qVar 0) (qC (.int 2))) e = some (.val (.int h.cs.length)) := by
        unfold qOp1
        rw [e1]
        simp [fLen, oLst, O.data, datas_length, scD]
      have e2 : qOp2 fMod (qIx (qVar 0) (qC (.int 1))) (qOp1 fLen (qIx (qVar 0) (qC (.int 2)))) e = some (.val (.int ((h.p + 1).fmod h.cs.length))) := by
        unfold qOp2
        rw [e3, e4]
        have : fMod [D.int (h.p + 1), D.int h.cs.length] = some (.int ((h.p + 1).fmod h.cs.length)) := by unfold fMod; exact if_pos hne
        simp only [O.data, this, scD, if_true]
      generalize qIx (qVar 0) (qC (.int 2)) = qa at *
      generalize qOp2 fMod _ _ = qb at *
      unfold qIx
      rw [e1, e2]
      simp only [O.item, oLst, List.map_map]
      rw [atD_map, hy]
      rfl
    repeat' done
    exact q _ ⟨h.d, h.p + 1, h.cs, h.hd, h.hc⟩ (Int.fmod_nonneg_of_pos _ hm) (Int.fmod_lt_of_pos _ hm)
end
theorem callQ_draw {h : Hand} {i : Nat} {env : VEnv} {m : Int} {Q : R → VEnv → Prop} {X : Exc → VEnv → Prop} (hi : env.at i = some h.o) (hm : 0 < m) (hm2 : m < 1073741824) (q : ∀ (r : Int) (h' : Hand), 0 ≤ r → r < m → ∃ e', Put env i h'.o e' ∧ Q (.o (.val (.int r))) e') :
    callQ [true, false] sem_law_draw Q X [.b i, .o (.val (.int m))] env := by
  refine callQ_mk (Args.t hi (Args.fv Args.n)) (by simp [okSlots, mutSlots, borSlots]) rfl (draw_fs h m hm hm2 fun r h' h0 h1 => ?_)
  obtain ⟨e', p, z⟩ := q r h' h0 h1
  exact ⟨e', Puts.t p (Puts.f Puts.n), z⟩
local macro_rules | `(tactic| done) => `(tactic| first
  | with_reducible refine Wp_seq ?_
  | with_reducible refine seq_nx ?_
  | with_reducible refine seq_ret ?_
  | with_reducible refine seq_brk ?_
  | with_reducible refine seq_cnt ?_
  | with_reducible refine Wp_asg ?_
  | ((with_reducible apply Wp_app); (· exact rfl))
  | with_reducible refine Wp_setIx ?_
  | ((with_reducible apply isLst_and); (· exact rfl))
  | ((with_reducible apply asg_o); (· repeat (first | exact Upd.zL | exact Upd.zN | exact Upd.zA (by assumption) | apply Upd.s)))
  | ((with_reducible apply asg_b); (· exact rfl); (· repeat (first | exact Upd.zL | exact Upd.zN | exact Upd.zA (by assumption) | apply Upd.s)); (· repeat (first | exact Upd.zL | exact Upd.zN | exact Upd.zA (by assumption) | apply Upd.s)))
  | with_reducible refine Wp_op ?_
  | with_reducible refine Wp_cons ?_
  | with_reducible refine Wp_nil ?_
  | with_reducible refine Wp_call ?_
  | ((with_reducible apply Wp_var); (· exact rfl))
  | ((with_reducible apply Wp_varB); (· exact rfl); (· exact rfl))
  | with_reducible refine Wp_c ?_
  | with_reducible refine Wp_dict0 ?_
  | ((with_reducible apply Wp_pure); (· exact rfl))
  | with_reducible refine Wp_sret ?_
  | with_reducible refine ret_o ?_
  | ((with_reducible apply ret_b); (· exact rfl); (· repeat (first | exact Upd.zL | exact Upd.zN | exact Upd.zA (by assumption) | apply Upd.s)))
  | with_reducible refine Wp_sretN ?_
  | with_reducible refine Wp_if ?_
  | with_reducible refine Wp_next ?_
  | with_reducible refine Wp_brk ?_
  | with_reducible refine Wp_cnt ?_
  | with_reducible refine Wp_drop ?_
  | with_reducible refine Wp_test ?_
  | with_reducible refine Wp_and ?_
  | with_reducible refine Wp_or ?_
  | with_reducible refine Wp_not ?_
  | with_reducible refine Wp_notV ?_
  | with_reducible refine Wp_andV ?_
  | with_reducible refine Wp_orV ?_
  | with_reducible refine Wp_ifE ?_
  | with_reducible refine Wp_yes ?_
  | with_reducible refine Wp_chain ?_
  | with_reducible refine Wp_for ?_
  | with_reducible refine Wp_slice ?_
  | with_reducible refine Wp_noPart ?_
  | with_reducible refine Wp_part ?_
  | with_reducible refine Wp_compI ?_
  | with_reducible refine Wp_range1 ?_
  | with_reducible refine Wp_range2 ?_
  | with_reducible refine Wp_anyI ?_
  | with_reducible refine any_vL ?_
  | with_reducible refine any_vT ?_
  | with_reducible refine any_oL ?_
  | with_reducible refine any_vS ?_
  | ((with_reducible apply any_bL); (· exact rfl); (· repeat (first | exact Upd.zL | exact Upd.zN | exact Upd.zA (by assumption) | apply Upd.s)))
  | with_reducible refine for_nx ?_
  | with_reducible refine for_cnt ?_
  | with_reducible refine for_brk ?_
  | with_reducible refine for_ret ?_
  | ((with_reducible apply fn_ret); (· repeat (first | exact Outs.n | apply Outs.t | apply Outs.f)))
  | ((with_reducible apply fn_nx); (· repeat (first | exact Outs.n | apply Outs.t | apply Outs.f)))
  | with_reducible refine Wp_meth ?_
  | with_reducible refine Wp_make ?_
  | ((with_reducible apply isIns_and); (· exact rfl))
  | ((with_reducible apply Ops_fld); (· exact rfl))
  | with_reducible refine Ops_add ?_
  | with_reducible refine Ops_sub ?_
  | ((with_reducible apply Ops_mul); (· first | exact .inl (by decide) | exact .inr (by decide) | with_reducible exact .inl (small_fmod (by decide) (by decide)) | with_reducible exact .inr (small_fmod (by decide) (by decide)) | exact .inl (small_of (by omega) (by omega)) | exact .inr (small_of (by omega) (by omega))))
  | ((with_reducible apply Ops_div); (· first | omega | decide); (· first | omega | decide))
  | ((with_reducible apply Ops_mod); (· first | omega | decide))
  | ((with_reducible apply Ops_powL); (· decide); (· simp only [Int.reduceToNat, Int.reducePow]; exact rfl))
  | with_reducible refine Ops_neg ?_
  | with_reducible refine Ops_abs ?_
  | with_reducible refine Ops_max2 ?_
  | with_reducible refine Ops_min2 ?_
  | with_reducible refine Ops_inS ?_
  | with_reducible refine Ops_lt ?_
  | with_reducible refine Ops_le ?_
  | with_reducible refine Ops_gt ?_
  | with_reducible refine Ops_ge ?_
  | with_reducible refine Ops_eqI ?_
  | with_reducible refine Ops_neI ?_
  | ((with_reducible apply Ops_lenT))
  | with_reducible refine Ops_lenW ?_
  | ((with_reducible apply Ops_lenN))
  | ((with_reducible apply Ops_len); (· first | exact RD.v | exact RD.ol | exact RD.b rfl | exact RD.any rfl))
  | ((with_reducible apply Ops_lenS); (· first | (unfold maxLen; omega) | (simp only [List.length_map, List.length_append, List.length_cons, List.length_nil, List.length_reverse]; unfold maxLen; omega) | decide))
  | ((with_reducible apply Ops_addS); (· first | (unfold maxLen; omega) | (simp only [List.length_map, List.length_append, List.length_cons, List.length_nil, List.length_reverse]; unfold maxLen; omega) | decide))
  | ((with_reducible apply Ops_lstV); (· repeat (first | exact RVals.n | apply RVals.c)); (· exact Nat.le_of_ble_eq_true rfl))
  | ((with_reducible apply Ops_tupV); (· repeat (first | exact RVals.n | apply RVals.c)); (· exact Nat.le_of_ble_eq_true rfl))
  | ((with_reducible apply Ops_lst); (· repeat (first | exact Settles.n | apply Settles.c Settle.o)); (· exact Nat.le_of_ble_eq_true rfl))
  | ((with_reducible apply Ops_tup); (· repeat (first | exact Settles.n | apply Settles.c Settle.o)); (· exact Nat.le_of_ble_eq_true rfl))
  | ((with_reducible apply Ops_isT); (· exact rfl); (· exact rfl))
  | ((with_reducible apply Ops_eqD); (· first | exact RD.v | exact RD.ol | exact RD.b rfl | exact RD.any rfl); (· first | exact RD.v | exact RD.ol | exact RD.b rfl | exact RD.any rfl); (· first | exact okE_ints _ | exact okE_words _ | exact okE_pairs _ | exact okE_tints _ | exact okE_w _ | exact okE_cutT _ _ _ | exact okE_cutL _ _ _ | rfl | assumption); (· first | exact okE_ints _ | exact okE_words _ | exact okE_pairs _ | exact okE_tints _ | exact okE_w _ | exact okE_cutT _ _ _ | exact okE_cutL _ _ _ | rfl | assumption))
  | ((with_reducible apply Ops_neD); (· first | exact RD.v | exact RD.ol | exact RD.b rfl | exact RD.any rfl); (· first | exact RD.v | exact RD.ol | exact RD.b rfl | exact RD.any rfl); (· first | exact okE_ints _ | exact okE_words _ | exact okE_pairs _ | exact okE_tints _ | exact okE_w _ | exact okE_cutT _ _ _ | exact okE_cutL _ _ _ | rfl | assumption); (· first | exact okE_ints _ | exact okE_words _ | exact okE_pairs _ | exact okE_tints _ | exact okE_w _ | exact okE_cutT _ _ _ | exact okE_cutL _ _ _ | rfl | assumption))
  | ((with_reducible apply Ops_isN); (· exact rfl))
  | ((with_reducible apply Ops_isNotN); (· exact rfl))
  | ((with_reducible apply Ops_cat); (· first | exact Items.ol | exact Items.vl | exact Items.vt | exact Items.b rfl | exact Items.ol2 rfl | exact Items.b2 rfl rfl); (· first | exact Items.ol | exact Items.vl | exact Items.vt | exact Items.b rfl | exact Items.ol2 rfl | exact Items.b2 rfl rfl); (· first | (unfold maxLen; omega) | (simp only [List.length_map, List.length_append, List.length_cons, List.length_nil, List.length_reverse]; unfold maxLen; omega) | decide))
  | ((with_reducible apply Ops_catT); (· first | exact Items.ol | exact Items.vl | exact Items.vt | exact Items.b rfl | exact Items.ol2 rfl | exact Items.b2 rfl rfl); (· first | exact Items.ol | exact Items.vl | exact Items.vt | exact Items.b rfl | exact Items.ol2 rfl | exact Items.b2 rfl rfl); (· first | (unfold maxLen; omega) | (simp only [List.length_map, List.length_append, List.length_cons, List.length_nil, List.length_reverse]; unfold maxLen; omega) | decide))
  | ((with_reducible apply Ops_list); (· first | exact Items.ol | exact Items.vl | exact Items.vt | exact Items.b rfl | exact Items.ol2 rfl | exact Items.b2 rfl rfl))
  | ((with_reducible apply Ops_ix); (· first | exact Items.ol | exact Items.vl | exact Items.vt | exact Items.b rfl | exact Items.ol2 rfl | exact Items.b2 rfl rfl); (· exact rfl))
  | ((with_reducible apply Ops_revL); (· first | exact Items.ol | exact Items.vl | exact Items.vt | exact Items.b rfl | exact Items.ol2 rfl | exact Items.b2 rfl rfl))
  | ((with_reducible apply Ops_revT); (· first | exact Items.ol | exact Items.vl | exact Items.vt | exact Items.b rfl | exact Items.ol2 rfl | exact Items.b2 rfl rfl))
  | with_reducible refine Ops_intI ?_
  | with_reducible refine Wp_par ?_
  | ((with_reducible apply par_oo); (· repeat (first | exact Upd.zL | exact Upd.zN | exact Upd.zA (by assumption) | apply Upd.s)); (· repeat (first | exact Upd.zL | exact Upd.zN | exact Upd.zA (by assumption) | apply Upd.s)))
  | with_reducible refine Wp_range3 ?_
  | ((with_reducible apply Ops_tuple); (· first | exact Items.ol | exact Items.vl | exact Items.vt | exact Items.b rfl | exact Items.ol2 rfl | exact Items.b2 rfl rfl))
  | ((with_reducible apply append_plain); (· exact rfl); (· first | (unfold maxLen; omega) | (simp only [List.length_map, List.length_append, List.length_cons, List.length_nil, List.length_reverse]; unfold maxLen; omega) | decide); (· repeat (first | exact Put.zL | exact Put.zP | apply Put.s)))
  | ((with_reducible apply Sl_scr))
  | ((with_reducible apply Sl_lst); (· first | exact Items.ol | exact Items.vl | exact Items.vt | exact Items.b rfl | exact Items.ol2 rfl | exact Items.b2 rfl rfl))
  | ((with_reducible apply Sl_tup); (· first | exact Items.ol | exact Items.vl | exact Items.vt | exact Items.b rfl | exact Items.ol2 rfl | exact Items.b2 rfl rfl))
  | ((with_reducible apply Sl_str); (· first | (unfold maxLen; omega) | (simp only [List.length_map, List.length_append, List.length_cons, List.length_nil, List.length_reverse]; unfold maxLen; omega) | decide))
  | ((with_reducible apply callQ_draw); (· exact rfl); (· first | omega | decide); (· first | omega | decide); intro _ _ _ _)
  | ((with_reducible apply bigI_and); (· first | omega | (simp only [List.length_map, List.length_append, List.length_cons, List.length_nil, List.length_reverse]; omega)); (· first | omega | (simp only [List.length_map, List.length_append, List.length_cons, List.length_nil, List.length_reverse]; omega)))
  | (refine ⟨_, (by repeat (first | exact Put.zL | exact Put.zP | apply Put.s) : Put _ _ _ _), ?_⟩)
  | with_reducible refine ⟨_, rfl, ?_⟩
  | with_reducible refine ⟨_, _, rfl, rfl, ?_⟩
  | with_reducible refine br_t ?_
  | with_reducible refine br_f ?_
  | (with_reducible refine br_dec ?_ ?_ <;> intro _)
  | (with_reducible refine br_ndec ?_ ?_ <;> intro _)
  | with_reducible refine br_not ?_
  | ((with_reducible apply br_tr); (· exact rfl))
  | ((with_reducible apply br_fl); (· exact rfl))
  | ((with_reducible refine br_b ?_ ?_) <;> intro _))
theorem open_r2 (ns : List Int) (place : Int) (hp : 0 ≤ place) (cs : List Int) (hne : cs ≠ []) (pos : ∀ n ∈ cs, 0 ≤ n) (len : cs.length ≤ 63) (c5 : Cell) {QS : Out → VEnv → Prop} {X : Exc → VEnv → Prop} (q : ∀ (h : Hand) a b c d, QS (.ret h.o) [.loc (.val (.scr ns)), .loc (.val (.int place)), a, b, c, d]) :
    Wp code_law_open_r2 [.loc (.val (.scr ns)), .loc (.val (.int place)), .loc (oLst (cs.map .int)), .no, .no, c5] QS X := by
  unfold code_law_open_r2
  have hl : 0 < cs.length := List.length_pos_iff.mpr hne
  obtain ⟨y, hy, hym⟩ := atD_fmod cs hne place
  have hy2 : atD (cs.map D.int) (place.fmod ((cs.map D.int).length : Int)) = some (.int y) := by rw [List.length_map, atD_map, hy]; rfl
  have e1 : ((cs.map D.int).length : Int) ≠ 0 := by rw [List.length_map]; omega
  have hy0 := pos y hym
  have key : ∀ (dg : Int), 0 ≤ dg → Wp code_law_open_r1 [.loc (.val (.scr ns)), .loc (.val (.int place)), .loc (oLst (cs.map .int)), .loc (.val (.int (place.fmod ((cs.map D.int).length : Int)))), .loc (.val (.int dg)), c5] QS X := fun dg hdg => by
    unfold code_law_open_r1
    repeat' done
    have b1 := cutD_len (cs.map D.int) (some (place.fmod ((cs.map D.int).length : Int))) none
    have b2 := cutD_len (cs.map D.int) none (some (place.fmod ((cs.map D.int).length : Int)))
    have b3 : (cs.map D.int).length ≤ 63 := by rw [List.length_map]; exact len
    refine Ops_cat .ol .ol (by unfold maxLen; omega) ?_
    rw [cutD_map, cutD_map, ← List.map_append]
    repeat' done
    refine q ⟨dg, 1 + 101 * place, cutD cs (some (place.fmod ((cs.map D.int).length : Int))) none ++ cutD cs none (some (place.fmod ((cs.map D.int).length : Int))), hdg, ?_⟩ _ _ _ _
    intro h
    have h2 := congrArg List.length h
    rw [List.length_map] at *
    have h3 := Int.fmod_nonneg_of_pos place (show (0 : Int) < cs.length by omega)
    have h4 := Int.fmod_lt_of_pos place (show (0 : Int) < cs.length by omega)
    simp only [cutD, sIx', List.length_append, List.length_take, List.length_drop, List.length_nil, if_neg (Int.not_lt.mpr h3)] at h2
    omega
  repeat' done
  · refine Ops_ix (.b rfl) hy2 ?_
    repeat' done
    · refine Ops_ix (.b rfl) hy2 ?_
      repeat' done
      exact key _ hy0
    · exact key _ (by decide)
    · exact key _ (by decide)
theorem open_fs (ns : List Int) (place : Int) (hp : 0 ≤ place) {Q : O → List O → Prop} {X : Exc → List O → Prop} (q : ∀ (h : Hand), Q h.o [.val (.scr ns), .val (.int place)]) : FS sem_law_open [.val (.scr ns), .val (.int place)] Q X := by
  refine FS_fnI (by repeat constructor) ?_
  unfold code_law_open
  repeat' done
  refine compQ_map (fun d => match d with | .int n => .int (if n < 0 then -n else n) | d => d) (.c .n (by repeat (first | exact Upd.zL | exact Upd.zN | apply Upd.s))) (.c rfl .n (by repeat (first | exact Upd.zL | exact Upd.zN | apply Upd.s))) ?_ (fun d hd => ?_) ?_
  · simp [cutD, sIx', maxLen]; omega
  · obtain ⟨n, _, rfl⟩ := List.mem_map.mp hd
    refine ⟨_, .name (by repeat (first | exact Upd.zL | exact Upd.zN | apply Upd.s)), ?_⟩
    repeat' done
    exact ⟨rfl, .c .n (by repeat (first | exact Upd.zL | exact Upd.zN | apply Upd.s))⟩
  rw [List.map_map]
  generalize hcs : (cutD ns none (some 63)).map ((fun d => match d with | D.int n => D.int (if n < 0 then -n else n) | d => d) ∘ D.int) = ds
  obtain ⟨cs, rfl⟩ : ∃ cs : List Int, ds = cs.map .int := ⟨(cutD ns none (some 63)).map fun n => if n < 0 then -n else n, by rw [← hcs, List.map_map]; exact List.map_congr_left fun n _ => rfl⟩
  have pos : ∀ n ∈ cs, 0 ≤ n := fun n hn => by
    have : D.int n ∈ cs.map .int := List.mem_map.mpr ⟨n, hn, rfl⟩
    rw [← hcs] at this
    obtain ⟨m, _, hm⟩ := List.mem_map.mp this
    have hm : (if m < 0 then -m else m) = n := by simpa using hm
    split at hm <;> omega
  have len : cs.length ≤ 63 := by
    have := congrArg List.length hcs
    simp [cutD, sIx'] at this
    omega
  clear hcs
  have e2 : eqD (.lst (cs.map .int)) (.lst []) = decide (cs = []) := by simp only [eqD, eqDs_nil, List.map_eq_nil_iff]
  have fin : ∀ (h : Hand) a b c d, fnQ [false, false] [.val (.scr ns), .val (.int place)] Q (.ret h.o) [.loc (.val (.scr ns)), .loc (.val (.int place)), a, b, c, d] := fun h a b c d => fn_ret (.f (.f .n)) (q h)
  repeat' done
  · rename_i h0
    exact open_r2 ns place hp [0] (by simp) (by simp) (by simp) _ fin
  · rename_i h0
    rw [e2] at h0
    exact open_r2 ns place hp cs (by simpa using h0) pos len _ fin
def HandFn (g : Fn) (P : O → Prop) : Prop := ∀ (h : Hand) (Q : O → List O → Prop) (X : Exc → List O → Prop), (∀ x (h' : Hand), P x → Q x [h'.o]) → FS g [h.o] Q X
theorem callQ_hand {g : Fn} {P : O → Prop} (f : HandFn g P) {h : Hand} {i : Nat} {env : VEnv} {Q : R → VEnv → Prop} {X : Exc → VEnv → Prop} (hi : env.at i = some h.o) (q : ∀ x (h' : Hand), P x → ∃ e', Put env i h'.o e' ∧ Q (.o x) e') :
    callQ [true] g Q X [.b i] env := by
  refine callQ_mk (Args.t hi Args.n) (by simp [okSlots, mutSlots, borSlots]) rfl (f h _ _ fun x h' p => ?_)
  obtain ⟨e', p, z⟩ := q x h' p
  exact ⟨e', Puts.t p Puts.n, z⟩
def ByteList (bs : List Int) : Prop := bs.Nodup ∧ ∀ b ∈ bs, 0 ≤ b ∧ b < 256
theorem bytes_fs (h : Hand) (m : Int) (hm : 2 ≤ m) (hm2 : m ≤ 4) {Q : O → List O → Prop} {X : Exc → List O → Prop} (q : ∀ (bs : List Int) (h' : Hand), 2 ≤ bs.length → (bs.length : Int) ≤ m → ByteList bs → Q (oLst (bs.map .int)) [h'.o, .val (.int m)]) : FS sem_law_bytes [h.o, .val (.int m)] Q X := by
  refine FS_fnI (by repeat constructor) ?_
  unfold code_law_bytes
  repeat' done
  rename_i bg h1 hb0 hb1 st h2 hs0 hs1 n h3 hn0 hn1
  refine compQ_map (fun d => match d with | .int k => .int ((bg + (1 + st) * k).fmod 256) | d => d) (.c .n (by repeat (first | exact Upd.zL | exact Upd.zN | exact Upd.zA (by assumption) | apply Upd.s))) (.c rfl .n (by repeat (first | exact Upd.zL | exact Upd.zN | exact Upd.zA (by assumption) | apply Upd.s))) ?_ (fun d hd => ?_) ?_
  · rw [rangeD_len]; unfold maxLen; omega
  · obtain ⟨k, _, rfl⟩ := List.mem_map.mp hd
    refine ⟨_, .name (by repeat (first | exact Upd.zL | exact Upd.zN | exact Upd.zA (by assumption) | apply Upd.s)), ?_⟩
    repeat' done
    exact ⟨rfl, .c .n (by repeat (first | exact Upd.zL | exact Upd.zN | exact Upd.zA (by assumption) | apply Upd.s))⟩
  repeat' done
  obtain ⟨N, hN⟩ : ∃ N : Nat, (2 + n : Int) = N := ⟨(2 + n).toNat, by omega⟩
  have e : (rangeD 0 (2 + n)).map (fun d => match d with | D.int k => D.int ((bg + (1 + st) * k).fmod 256) | d => d) = ((List.range N).map fun k : Nat => (bg + (1 + st) * (k : Int)).fmod 256).map D.int := by
    rw [hN]
    unfold rangeD
    simp only [Int.sub_zero, Int.toNat_natCast, List.map_map]
    apply List.map_congr_left
    intro k _
    simp
  rw [e]
  refine q _ _ (by simp; omega) (by simp; omega) ⟨?_, fun b hb => ?_⟩
  · rw [List.nodup_iff_pairwise_ne, List.pairwise_map]
    refine List.Pairwise.imp_of_mem ?_ List.pairwise_lt_range
    intro a b ha hb hab e
    have ha := List.mem_range.mp ha
    have hb := List.mem_range.mp hb
    have : N ≤ 4 := by omega
    rw [Int.fmod_eq_emod_of_nonneg _ (by decide), Int.fmod_eq_emod_of_nonneg _ (by decide)] at e
    have e2 := Int.emod_emod_of_dvd (n := bg + (1 + st) * (b : Int) - (bg + (1 + st) * (a : Int))) (m := 256) (k := 256) (Int.dvd_refl _)
    have e3 : (bg + (1 + st) * (b : Int) - (bg + (1 + st) * (a : Int))) % 256 = 0 := by rw [Int.sub_emod, ← e]; simp
    have e4 : bg + (1 + st) * (b : Int) - (bg + (1 + st) * (a : Int)) = (1 + st) * ((b : Int) - a) := by rw [Int.mul_sub]; omega
    rw [e4] at e3
    have c1 : (b : Int) - a = 1 ∨ (b : Int) - a = 2 ∨ (b : Int) - a = 3 := by omega
    rcases c1 with c | c | c <;> (rw [c] at e3; omega)
  · obtain ⟨k, _, rfl⟩ := List.mem_map.mp hb
    exact ⟨Int.fmod_nonneg_of_pos _ (by decide), Int.fmod_lt_of_pos _ (by decide)⟩
theorem callQ_bytes {h : Hand} {i : Nat} {env : VEnv} {m : Int} {Q : R → VEnv → Prop} {X : Exc → VEnv → Prop} (hi : env.at i = some h.o) (hm : 2 ≤ m) (hm2 : m ≤ 4) (q : ∀ (bs : List Int) (h' : Hand), 2 ≤ bs.length → (bs.length : Int) ≤ m → ByteList bs → ∃ e', Put env i h'.o e' ∧ Q (.o (oLst (bs.map .int))) e') :
    callQ [true, false] sem_law_bytes Q X [.b i, .o (.val (.int m))] env := by
  refine callQ_mk (Args.t hi (Args.fv Args.n)) (by simp [okSlots, mutSlots, borSlots]) rfl (bytes_fs h m hm hm2 fun bs h' a b c => ?_)
  obtain ⟨e', p, z⟩ := q bs h' a b c
  exact ⟨e', Puts.t p (Puts.f Puts.n), z⟩
theorem words_b1 (h : Hand) (bs : List Int) (hs : bs.Nodup) (hs4 : bs.length ≤ 20) (most lo : Int) (ws : List (List Int)) (hlo : 1 ≤ lo) (hlo2 : lo ≤ 100) (hne : ws ≠ []) (hw : WordsOk bs lo ws) (hp : ws.Pairwise PFree) (hl : ws.length ≤ 1000) (c5 c6 c7 c8 : Cell) (h6 : LN c6) (h7 : LN c7) {QS : Out → VEnv → Prop} {X : Exc → VEnv → Prop}
    (q : ∀ (h' : Hand) (ws' : List (List Int)) (c6 : Cell), LN c6 → (bs ≠ [] → ws' ≠ []) → WordsOk bs lo ws' → ws'.Pairwise PFree → ws'.length + 1 ≤ ws.length + max 1 bs.length → QS .nx [.par h'.o, .loc (.val (.lst (bs.map .int))), .loc (.val (.int most)), .loc (.val (.int lo)), .loc (oLst (ws'.map wD)), c5, c6, c7, c8]) :
    Wp code_law_words_b1 [.par h.o, .loc (.val (.lst (bs.map .int))), .loc (.val (.int most)), .loc (.val (.int lo)), .loc (oLst (ws.map wD)), c5, c6, c7, c8] QS X := by
  unfold code_law_words_b1
  have hl0 : 0 < ws.length := List.length_pos_iff.mpr hne
  have hl1 : ((ws.map wD).length : Int) ≠ 0 := by rw [List.length_map]; omega
  repeat' done
  rename_i r h' _ _
  obtain ⟨h3, h4⟩ := ixN_fmod hl0 r
  have e0 : ((ws.map wD).length : Int) = ws.length := by rw [List.length_map]
  rw [e0]
  have p0 := Int.fmod_nonneg_of_pos r (show (0 : Int) < ws.length by omega)
  have p1 := Int.fmod_lt_of_pos r (show (0 : Int) < ws.length by omega)
  generalize r.fmod (ws.length : Int) = at_ at *
  obtain ⟨w, hw1, hw2, hw3⟩ := atD_nat p0 p1
  have hw4 : atD (ws.map wD) at_ = some (.tup (w.map .int)) := by rw [atD_map, hw1]; rfl
  refine Ops_ix (.b rfl) hw4 ?_
  repeat' done
  · rename_i hlt
    rw [List.length_map] at hlt
    refine compQ_map (fun d => .tup (w.map .int ++ [d])) (.c .n (by repeat (first | exact Upd.zL | exact Upd.zN | exact Upd.zA (by assumption) | apply Upd.s))) (.c rfl .n (by repeat (first | exact Upd.zL | exact Upd.zN | exact Upd.zA (by assumption) | apply Upd.s))) (by rw [List.length_map]; unfold maxLen; omega) (fun d hd => ?_) ?_
    · obtain ⟨k, _, rfl⟩ := List.mem_map.mp hd
      refine ⟨_, .name (by repeat (first | exact Upd.zL | exact Upd.zN | exact Upd.zA (by assumption) | apply Upd.s)), ?_⟩
      repeat' done
      refine Ops_ix (.b rfl) hw4 ?_
      repeat' done
      exact ⟨rfl, .c .n (by repeat (first | exact Upd.zL | exact Upd.zN | exact Upd.zA (by assumption) | apply Upd.s))⟩
    repeat' done
    have l1 := cutD_len (ws.map wD) none (some at_)
    have l2 := cutD_len (ws.map wD) (some (at_ + 1)) none
    rw [List.length_map] at l1 l2
    refine Ops_cat .ol .ol ?_ ?_
    · simp only [List.length_map]; unfold maxLen; omega
    repeat' done
    have e1 : cutD (ws.map wD) none (some at_) ++ (bs.map D.int).map (fun d => .tup (w.map .int ++ [d])) ++ cutD (ws.map wD) (some (at_ + 1)) none = (ws.take at_.toNat ++ bs.map (fun b => w ++ [b]) ++ ws.drop (at_.toNat + 1)).map wD := by
      rw [cutD_take _ p0, cutD_drop _ (by omega), show (at_ + 1).toNat = at_.toNat + 1 by omega, List.map_append, List.map_append, List.map_take, List.map_drop, List.map_map, List.map_map]
      congr 2
      apply List.map_congr_left
      intro b _
      show D.tup _ = D.tup _
      rw [List.map_append]; rfl
    rw [e1]
    have sp := list_split hw2
    refine q _ _ _ trivial (fun hb => ?_) ⟨fun x hx => ?_, fun x hx => ?_, fun x hx b hb => ?_⟩ (pf_split (by rw [← sp]; exact hp) hs) ?_
    · intro he
      have := congrArg List.length he
      simp at this
      exact hb this.2.1
    · rcases List.mem_append.mp hx with hx | hx
      · rcases List.mem_append.mp hx with hx | hx
        · exact hw.ne x (List.mem_of_mem_take hx)
        · obtain ⟨b, _, rfl⟩ := List.mem_map.mp hx; simp
      · exact hw.ne x (List.mem_of_mem_drop hx)
    · rcases List.mem_append.mp hx with hx | hx
      · rcases List.mem_append.mp hx with hx | hx
        · exact hw.le x (List.mem_of_mem_take hx)
        · obtain ⟨b, _, rfl⟩ := List.mem_map.mp hx; simp; omega
      · exact hw.le x (List.mem_of_mem_drop hx)
    · rcases List.mem_append.mp hx with hx | hx
      · rcases List.mem_append.mp hx with hx | hx
        · exact hw.by_ x (List.mem_of_mem_take hx) b hb
        · obtain ⟨b', hb', rfl⟩ := List.mem_map.mp hx
          rcases List.mem_append.mp hb with hb | hb
          · exact hw.by_ w hw3 b hb
          · rw [List.mem_singleton] at hb; subst hb; exact hb'
      · exact hw.by_ x (List.mem_of_mem_drop hx) b hb
    · simp only [List.length_append, List.length_map, List.length_take, List.length_drop]; omega
  · exact q _ _ _ trivial (fun _ => hne) hw hp (by omega)
theorem words_fs (h : Hand) (bs : List Int) (hs : bs.Nodup) (hb0 : bs ≠ []) (hs4 : bs.length ≤ 20) (most lo : Int) (hm : 0 ≤ most) (hm2 : most ≤ 20) (hlo : 1 ≤ lo) (hlo2 : lo ≤ 100) {Q : O → List O → Prop} {X : Exc → List O → Prop}
    (q : ∀ (ws : List (List Int)) (h' : Hand), WordsOk bs lo ws → ws.Pairwise PFree → (ws.length : Int) ≤ bs.length + most * (bs.length - 1) → Q (oLst (ws.map wD)) [h'.o, .val (.lst (bs.map .int)), .val (.int most), .val (.int lo)]) : FS sem_law_words [h.o, .val (.lst (bs.map .int)), .val (.int most), .val (.int lo)] Q X := by
  refine FS_fnI (by repeat constructor) ?_
  unfold code_law_words
  repeat' done
  refine compQ_map (fun d => .tup [d]) (.c .n (by repeat (first | exact Upd.zL | exact Upd.zN | exact Upd.zA (by assumption) | apply Upd.s))) (.c rfl .n (by repeat (first | exact Upd.zL | exact Upd.zN | exact Upd.zA (by assumption) | apply Upd.s))) (by rw [List.length_map]; unfold maxLen; omega) (fun d hd => ?_) ?_
  · obtain ⟨k, _, rfl⟩ := List.mem_map.mp hd
    refine ⟨_, .name (by repeat (first | exact Upd.zL | exact Upd.zN | exact Upd.zA (by assumption) | apply Upd.s)), ?_⟩
    repeat' done
    exact ⟨rfl, .c .n (by repeat (first | exact Upd.zL | exact Upd.zN | exact Upd.zA (by assumption) | apply Upd.s))⟩
  have e0 : (bs.map D.int).map (fun d => .tup [d]) = (bs.map fun b => [b]).map wD := by rw [List.map_map, List.map_map]; rfl
  rw [e0]
  repeat' done
  rename_i n h1 hn0 hn1
  have hb1 : 1 ≤ (bs.length : Int) := by have := List.length_pos_iff.mpr hb0; omega
  have mono : ∀ k : Int, 0 ≤ k → k ≤ most → k * ((bs.length : Int) - 1) ≤ most * ((bs.length : Int) - 1) ∧ most * ((bs.length : Int) - 1) ≤ 380 ∧ (k + 1) * ((bs.length : Int) - 1) = k * ((bs.length : Int) - 1) + ((bs.length : Int) - 1) := fun k h1 h2 => by
    refine ⟨Int.mul_le_mul_of_nonneg_right h2 (by omega), ?_, by rw [Int.add_mul, Int.one_mul]⟩
    have := Int.mul_le_mul (show most ≤ 20 by omega) (show (bs.length : Int) - 1 ≤ 19 by omega) (by omega) (by omega)
    omega
  refine Wp_forR0 hn0 (fun k e => ∃ (h : Hand) (ws : List (List Int)) (c5 c6 c7 c8 : Cell), e = [.par h.o, .loc (.val (.lst (bs.map .int))), .loc (.val (.int most)), .loc (.val (.int lo)), .loc (oLst (ws.map wD)), c5, c6, c7, c8] ∧ LN c5 ∧ LN c6 ∧ LN c7 ∧ LN c8 ∧ ws ≠ [] ∧ WordsOk bs lo ws ∧ ws.Pairwise PFree ∧ (ws.length : Int) ≤ bs.length + k * (bs.length - 1)) (fun k e hk0 hk hI => ?_) (fun e hI => ?_) ⟨h1, bs.map fun b => [b], _, _, _, _, rfl, trivial, trivial, trivial, trivial, by simpa using hb0, ⟨?_, ?_, ?_⟩, ?_, by simp⟩
  · obtain ⟨h, ws, c5, c6, c7, c8, rfl, h5, h6, h7, h8, hne, hw, hp, hl⟩ := hI
    obtain ⟨m1, m2, m3⟩ := mono k hk0 (by omega)
    refine ⟨_, .name (by repeat (first | exact Upd.zL | exact Upd.zN | exact Upd.zA (by assumption) | apply Upd.s)), ?_⟩
    refine words_b1 h bs hs hs4 most lo ws hlo hlo2 hne hw hp (by omega) _ c6 c7 c8 h6 h7 fun h' ws' c6 h6 a b d e => for_nx ?_
    exact ⟨h', ws', _, c6, c7, c8, rfl, trivial, h6, h7, h8, a hb0, b, d, by omega⟩
  · obtain ⟨h, ws, c5, c6, c7, c8, rfl, h5, h6, h7, h8, hne, hw, hp, hl⟩ := hI
    obtain ⟨m1, m2, m3⟩ := mono n hn0 (by omega)
    repeat' done
    unfold code_law_words_r1
    repeat' done
    refine compQ_sub (h := h) (fun h => [.par h.o, .loc (.val (.lst (bs.map .int))), .loc (.val (.int most)), .loc (.val (.int lo)), .loc (.val (.lst (ws.map wD))), c5, c6, c7, c8]) (fun h => [.par h.o, .loc (.val (.lst (bs.map .int))), .loc (.val (.int most)), .loc (.val (.int lo)), .loc (.val (.lst (ws.map wD))), c5, c6, c7, .no]) id (fun h => .c .n (by repeat (first | exact Upd.zL | exact Upd.zN | exact Upd.zA (by assumption) | apply Upd.s))) (fun h h' => .c rfl .n (by repeat (first | exact Upd.zL | exact Upd.zN | exact Upd.zA (by assumption) | apply Upd.s))) ?_ (fun d hd h => ?_) fun ys h' hy => ?_
    · rw [List.length_map]; unfold maxLen; omega
    · refine ⟨_, .name (by repeat (first | exact Upd.zL | exact Upd.zN | exact Upd.zA (by assumption) | apply Upd.s)), ?_⟩
      repeat' done
      · obtain ⟨w, hw, rfl⟩ := List.mem_map.mp hd
        repeat' done
        exact ⟨_, rfl, .c .n (by repeat (first | exact Upd.zL | exact Upd.zN | exact Upd.zA (by assumption) | apply Upd.s))⟩
      · exact ⟨_, .c .n (by repeat (first | exact Upd.zL | exact Upd.zN | exact Upd.zA (by assumption) | apply Upd.s))⟩
    obtain ⟨zs, rfl, hz⟩ := sub_map hy
    rw [List.map_id]
    repeat' done
    exact q zs h' (hw.sub fun w h => hz.subset h) (hp.sublist hz) (by have := hz.length_le; omega)
  · intro w hw; obtain ⟨b, _, rfl⟩ := List.mem_map.mp hw; simp
  · intro w hw; obtain ⟨b, _, rfl⟩ := List.mem_map.mp hw; simp; omega
  · intro w hw b hb; obtain ⟨b', hb', rfl⟩ := List.mem_map.mp hw; rw [List.mem_singleton] at hb; subst hb; exact hb'
  · rw [List.pairwise_map]; exact hs.imp fun h => PFree.two (w := []) h
end VS.K16
namespace VS.K16
open VS
local macro_rules | `(tactic| done) => `(tactic| first
  | with_reducible refine Wp_seq ?_
  | with_reducible refine seq_nx ?_
  | with_reducible refine seq_ret ?_
  | with_reducible refine seq_brk ?_
  | with_reducible refine seq_cnt ?_
  | with_reducible refine Wp_asg ?_
  | ((with_reducible apply Wp_app); (· exact rfl))
  | with_reducible refine Wp_setIx ?_
  | ((with_reducible apply isLst_and); (· exact rfl))
  | ((with_reducible apply asg_o); (· repeat (first | exact Upd.zL | exact Upd.zN | exact Upd.zA (by assumption) | apply Upd.s)))
  | ((with_reducible apply asg_b); (· exact rfl); (· repeat (first | exact Upd.zL | exact Upd.zN | exact Upd.zA (by assumption) | apply Upd.s)); (· repeat (first | exact Upd.zL | exact Upd.zN | exact Upd.zA (by assumption) | apply Upd.s)))
  | with_reducible refine Wp_op ?_
  | with_reducible refine Wp_cons ?_
  | with_reducible refine Wp_nil ?_
  | with_reducible refine Wp_call ?_
  | ((with_reducible apply Wp_var); (· exact rfl))
  | ((with_reducible apply Wp_varB); (· exact rfl); (· exact rfl))
  | with_reducible refine Wp_c ?_
  | with_reducible refine Wp_dict0 ?_
  | ((with_reducible apply Wp_pure); (· exact rfl))
  | with_reducible refine Wp_sret ?_
  | with_reducible refine ret_o ?_
  | ((with_reducible apply ret_b); (· exact rfl); (· repeat (first | exact Upd.zL | exact Upd.zN | exact Upd.zA (by assumption) | apply Upd.s)))
  | with_reducible refine Wp_sretN ?_
  | with_reducible refine Wp_if ?_
  | with_reducible refine Wp_next ?_
  | with_reducible refine Wp_brk ?_
  | with_reducible refine Wp_cnt ?_
  | with_reducible refine Wp_drop ?_
  | with_reducible refine Wp_test ?_
  | with_reducible refine Wp_and ?_
  | with_reducible refine Wp_or ?_
  | with_reducible refine Wp_not ?_
  | with_reducible refine Wp_notV ?_
  | with_reducible refine Wp_andV ?_
  | with_reducible refine Wp_orV ?_
  | with_reducible refine Wp_ifE ?_
  | with_reducible refine Wp_yes ?_
  | with_reducible refine Wp_chain ?_
  | with_reducible refine Wp_for ?_
  | with_reducible refine Wp_slice ?_
  | with_reducible refine Wp_noPart ?_
  | with_reducible refine Wp_part ?_
  | with_reducible refine Wp_compI ?_
  | with_reducible refine Wp_range1 ?_
  | with_reducible refine Wp_range2 ?_
  | with_reducible refine Wp_anyI ?_
  | with_reducible refine any_vL ?_
  | with_reducible refine any_vT ?_
  | with_reducible refine any_oL ?_
  | with_reducible refine any_vS ?_
  | ((with_reducible apply any_bL); (· exact rfl); (· repeat (first | exact Upd.zL | exact Upd.zN | exact Upd.zA (by assumption) | apply Upd.s)))
  | with_reducible refine for_nx ?_
  | with_reducible refine for_cnt ?_
  | with_reducible refine for_brk ?_
  | with_reducible refine for_ret ?_
  | ((with_reducible apply fn_ret); (· repeat (first | exact Outs.n | apply Outs.t | apply Outs.f)))
  | ((with_reducible apply fn_nx); (· repeat (first | exact Outs.n | apply Outs.t | apply Outs.f)))
  | with_reducible refine Wp_meth ?_
  | with_reducible refine Wp_make ?_
  | ((with_reducible apply isIns_and); (· exact rfl))
  | ((with_reducible apply Ops_fld); (· exact rfl))
  | with_reducible refine Ops_add ?_
  | with_reducible refine Ops_sub ?_
  | ((with_reducible apply Ops_mul); (· first | exact .inl (by decide) | exact .inr (by decide) | with_reducible exact .inl (small_fmod (by decide) (by decide)) | with_reducible exact .inr (small_fmod (by decide) (by decide)) | exact .inl (small_of (by omega) (by omega)) | exact .inr (small_of (by omega) (by omega))))
  | ((with_reducible apply Ops_div); (· first | omega | decide); (· first | omega | decide))
  | ((with_reducible apply Ops_mod); (· first | omega | decide))
  | ((with_reducible apply Ops_powL); (· decide); (· simp only [Int.reduceToNat, Int.reducePow]; exact rfl))
  | with_reducible refine Ops_neg ?_
  | with_reducible refine Ops_abs ?_
  | with_reducible refine Ops_max2 ?_
  | with_reducible refine Ops_min2 ?_
  | with_reducible refine Ops_inS ?_
  | with_reducible refine Ops_lt ?_
  | with_reducible refine Ops_le ?_
  | with_reducible refine Ops_gt ?_
  | with_reducible refine Ops_ge ?_
  | with_reducible refine Ops_eqI ?_
  | with_reducible refine Ops_neI ?_
  | ((with_reducible apply Ops_lenT))
  | with_reducible refine Ops_lenW ?_
  | ((with_reducible apply Ops_lenN))
  | ((with_reducible apply Ops_len); (· first | exact RD.v | exact RD.ol | exact RD.b rfl | exact RD.any rfl))
  | ((with_reducible apply Ops_lenS); (· first | (unfold maxLen; omega) | (simp only [List.length_map, List.length_append, List.length_cons, List.length_nil, List.length_reverse]; unfold maxLen; omega) | decide))
  | ((with_reducible apply Ops_addS); (· first | (unfold maxLen; omega) | (simp only [List.length_map, List.length_append, List.length_cons, List.length_nil, List.length_reverse]; unfold maxLen; omega) | decide))
  | ((with_reducible apply Ops_lstV); (· repeat (first | exact RVals.n | apply RVals.c)); (· exact Nat.le_of_ble_eq_true rfl))
  | ((with_reducible apply Ops_tupV); (· repeat (first | exact RVals.n | apply RVals.c)); (· exact Nat.le_of_ble_eq_true rfl))
  | ((with_reducible apply Ops_lst); (· repeat (first | exact Settles.n | apply Settles.c Settle.o)); (· exact Nat.le_of_ble_eq_true rfl))
  | ((with_reducible apply Ops_tup); (· repeat (first | exact Settles.n | apply Settles.c Settle.o)); (· exact Nat.le_of_ble_eq_true rfl))
  | ((with_reducible apply Ops_isT); (· exact rfl); (· exact rfl))
  | ((with_reducible apply Ops_eqD); (· first | exact RD.v | exact RD.ol | exact RD.b rfl | exact RD.any rfl); (· first | exact RD.v | exact RD.ol | exact RD.b rfl | exact RD.any rfl); (· first | exact okE_ints _ | exact okE_words _ | exact okE_pairs _ | exact okE_tints _ | exact okE_w _ | exact okE_cutT _ _ _ | exact okE_cutL _ _ _ | rfl | assumption); (· first | exact okE_ints _ | exact okE_words _ | exact okE_pairs _ | exact okE_tints _ | exact okE_w _ | exact okE_cutT _ _ _ | exact okE_cutL _ _ _ | rfl | assumption))
  | ((with_reducible apply Ops_neD); (· first | exact RD.v | exact RD.ol | exact RD.b rfl | exact RD.any rfl); (· first | exact RD.v | exact RD.ol | exact RD.b rfl | exact RD.any rfl); (· first | exact okE_ints _ | exact okE_words _ | exact okE_pairs _ | exact okE_tints _ | exact okE_w _ | exact okE_cutT _ _ _ | exact okE_cutL _ _ _ | rfl | assumption); (· first | exact okE_ints _ | exact okE_words _ | exact okE_pairs _ | exact okE_tints _ | exact okE_w _ | exact okE_cutT _ _ _ | exact okE_cutL _ _ _ | rfl | assumption))
  | ((with_reducible apply Ops_isN); (· exact rfl))
  | ((with_reducible apply Ops_isNotN); (· exact rfl))
  | ((with_reducible apply Ops_cat); (· first | exact Items.ol | exact Items.vl | exact Items.vt | exact Items.b rfl | exact Items.ol2 rfl | exact Items.b2 rfl rfl); (· first | exact Items.ol | exact Items.vl | exact Items.vt | exact Items.b rfl | exact Items.ol2 rfl | exact Items.b2 rfl rfl); (· first | (unfold maxLen; omega) | (simp only [List.length_map, List.length_append, List.length_cons, List.length_nil, List.length_reverse]; unfold maxLen; omega) | decide))
  | ((with_reducible apply Ops_catT); (· first | exact Items.ol | exact Items.vl | exact Items.vt | exact Items.b rfl | exact Items.ol2 rfl | exact Items.b2 rfl rfl); (· first | exact Items.ol | exact Items.vl | exact Items.vt | exact Items.b rfl | exact Items.ol2 rfl | exact Items.b2 rfl rfl); (· first | (unfold maxLen; omega) | (simp only [List.length_map, List.length_append, List.length_cons, List.length_nil, List.length_reverse]; unfold maxLen; omega) | decide))
  | ((with_reducible apply Ops_list); (· first | exact Items.ol | exact Items.vl | exact Items.vt | exact Items.b rfl | exact Items.ol2 rfl | exact Items.b2 rfl rfl))
  | ((with_reducible apply Ops_ix); (· first | exact Items.ol | exact Items.vl | exact Items.vt | exact Items.b rfl | exact Items.ol2 rfl | exact Items.b2 rfl rfl); (· exact rfl))
  | ((with_reducible apply Ops_revL); (· first | exact Items.ol | exact Items.vl | exact Items.vt | exact Items.b rfl | exact Items.ol2 rfl | exact Items.b2 rfl rfl))
  | ((with_reducible apply Ops_revT); (· first | exact Items.ol | exact Items.vl | exact Items.vt | exact Items.b rfl | exact Items.ol2 rfl | exact Items.b2 rfl rfl))
  | with_reducible refine Ops_intI ?_
  | with_reducible refine Wp_par ?_
  | ((with_reducible apply par_oo); (· repeat (first | exact Upd.zL | exact Upd.zN | exact Upd.zA (by assumption) | apply Upd.s)); (· repeat (first | exact Upd.zL | exact Upd.zN | exact Upd.zA (by assumption) | apply Upd.s)))
  | with_reducible refine Wp_range3 ?_
  | ((with_reducible apply Ops_tuple); (· first | exact Items.ol | exact Items.vl | exact Items.vt | exact Items.b rfl | exact Items.ol2 rfl | exact Items.b2 rfl rfl))
  | ((with_reducible apply append_plain); (· exact rfl); (· first | (unfold maxLen; omega) | (simp only [List.length_map, List.length_append, List.length_cons, List.length_nil, List.length_reverse]; unfold maxLen; omega) | decide); (· repeat (first | exact Put.zL | exact Put.zP | apply Put.s)))
  | ((with_reducible apply Sl_scr))
  | ((with_reducible apply Sl_lst); (· first | exact Items.ol | exact Items.vl | exact Items.vt | exact Items.b rfl | exact Items.ol2 rfl | exact Items.b2 rfl rfl))
  | ((with_reducible apply Sl_tup); (· first | exact Items.ol | exact Items.vl | exact Items.vt | exact Items.b rfl | exact Items.ol2 rfl | exact Items.b2 rfl rfl))
  | ((with_reducible apply Sl_str); (· first | (unfold maxLen; omega) | (simp only [List.length_map, List.length_append, List.length_cons, List.length_nil, List.length_reverse]; unfold maxLen; omega) | decide))
  | ((with_reducible apply callQ_draw); (· exact rfl); (· first | omega | decide); (· first | omega | decide); intro _ _ _ _)
  | ((with_reducible apply bigI_and); (· first | omega | (simp only [List.length_map, List.length_append, List.length_cons, List.length_nil, List.length_reverse]; omega)); (· first | omega | (simp only [List.length_map, List.length_append, List.length_cons, List.length_nil, List.length_reverse]; omega)))
  | (refine ⟨_, (by repeat (first | exact Put.zL | exact Put.zP | apply Put.s) : Put _ _ _ _), ?_⟩)
  | with_reducible refine ⟨_, rfl, ?_⟩
  | with_reducible refine ⟨_, _, rfl, rfl, ?_⟩
  | with_reducible refine br_t ?_
  | with_reducible refine br_f ?_
  | (with_reducible refine br_dec ?_ ?_ <;> intro _)
  | (with_reducible refine br_ndec ?_ ?_ <;> intro _)
  | with_reducible refine br_not ?_
  | ((with_reducible apply br_tr); (· exact rfl))
  | ((with_reducible apply br_fl); (· exact rfl))
  | ((with_reducible refine br_b ?_ ?_) <;> intro _))
def SignList (ss : List Int) : Prop := ss.Nodup ∧ ∀ s ∈ ss, 0 ≤ s ∧ s < 800000000
theorem signs_fs (h : Hand) (m : Int) (hm : 0 ≤ m) (hm2 : m ≤ 30) {Q : O → List O → Prop} {X : Exc → List O → Prop} (q : ∀ (ss : List Int) (h' : Hand), (ss.length : Int) = m → SignList ss → Q (oLst (ss.map .int)) [h'.o, .val (.int m)]) : FS sem_law_signs [h.o, .val (.int m)] Q X := by
  refine FS_fnI (by repeat constructor) ?_
  unfold code_law_signs
  repeat' done
  refine Ops_intB fun fl hfl => ?_
  repeat' done
  rename_i b0 _ hb0 hb1 b1 _ hb2 hb3 s1 _ hs1 hs2 s2 _ hs3 hs4 k h4 hk0 hk1
  have hbg : 0 ≤ fl * (b0 * 1000000 + b1) ∧ fl * (b0 * 1000000 + b1) < 500000000 := by
    rcases hfl with rfl | rfl <;> constructor <;> omega
  generalize fl * (b0 * 1000000 + b1) = bg at *
  refine Ops_ixAll .ol hk0 (by simpa using hk1) fun d hd => ?_
  obtain ⟨st, rfl, hst0, hst1⟩ : ∃ st : Int, d = .int st ∧ 0 ≤ st ∧ st < 10000000 := by
    simp only [List.mem_cons, List.not_mem_nil, or_false] at hd
    rcases hd with rfl | rfl | rfl
    · exact ⟨_, rfl, by omega, by omega⟩
    · exact ⟨_, rfl, by omega, by omega⟩
    · exact ⟨_, rfl, by omega, by omega⟩
  clear hd
  repeat' done
  refine compQ_map (fun d => match d with | .int k => .int (bg + (1 + st) * k) | d => d) (.c .n (by repeat (first | exact Upd.zL | exact Upd.zN | exact Upd.zA (by assumption) | apply Upd.s))) (.c rfl .n (by repeat (first | exact Upd.zL | exact Upd.zN | exact Upd.zA (by assumption) | apply Upd.s))) ?_ (fun d hd => ?_) ?_
  · rw [rangeD_len]; unfold maxLen; omega
  · obtain ⟨k, hk, rfl⟩ := List.mem_map.mp hd
    have hk2 := List.mem_range.mp hk
    refine ⟨_, .name (by repeat (first | exact Upd.zL | exact Upd.zN | exact Upd.zA (by assumption) | apply Upd.s)), ?_⟩
    repeat' done
    exact ⟨rfl, .c .n (by repeat (first | exact Upd.zL | exact Upd.zN | exact Upd.zA (by assumption) | apply Upd.s))⟩
  obtain ⟨N, rfl⟩ : ∃ N : Nat, m = N := ⟨m.toNat, by omega⟩
  have e : (rangeD 0 (N : Int)).map (fun d => match d with | D.int k => D.int (bg + (1 + st) * k) | d => d) = ((List.range N).map fun k : Nat => bg + (1 + st) * (k : Int)).map D.int := by
    unfold rangeD
    simp only [Int.sub_zero, Int.toNat_natCast, List.map_map]
    apply List.map_congr_left
    intro k _
    simp
  rw [e]
  have ok : SignList ((List.range N).map fun k : Nat => bg + (1 + st) * (k : Int)) := by
    refine ⟨?_, fun s hs => ?_⟩
    · rw [List.nodup_iff_pairwise_ne, List.pairwise_map]
      refine List.pairwise_lt_range.imp fun {a b} hab e => ?_
      have e2 : (1 + st) * ((b : Int) - a) = 0 := by rw [Int.mul_sub]; omega
      rcases Int.mul_eq_zero.mp e2 with h | h <;> omega
    · obtain ⟨k, hk, rfl⟩ := List.mem_map.mp hs
      have hk2 := List.mem_range.mp hk
      have h1 : 0 ≤ (1 + st) * (k : Int) := Int.mul_nonneg (by omega) (by omega)
      have h2 : (1 + st) * (k : Int) ≤ 10000000 * 29 := Int.mul_le_mul (by omega) (by omega) (by omega) (by omega)
      omega
  have len : ((List.range N).map fun k : Nat => bg + (1 + st) * (k : Int)).length = N := by simp
  generalize (List.range N).map (fun k : Nat => bg + (1 + st) * (k : Int)) = ss at *
  clear e
  repeat' done
  rename_i r h5 hr0 hr1
  have a0 := Int.fmod_nonneg_of_pos r (show (0 : Int) < (if (N : Int) > 1 then (N : Int) else 1) by split <;> omega)
  generalize r.fmod (if (N : Int) > 1 then (N : Int) else 1) = at_ at *
  have l1 := cutD_len (ss.map D.int) (some at_) none
  have l2 := cutD_len (ss.map D.int) none (some at_)
  rw [List.length_map] at l1 l2
  refine Ops_cat .ol .ol ?_ ?_
  · unfold maxLen; omega
  rw [cutD_map, cutD_map, ← List.map_append, cutD_take _ a0, cutD_drop _ a0]
  have pm : List.Perm (ss.drop at_.toNat ++ ss.take at_.toNat) ss := by
    have := List.perm_append_comm (l₁ := ss.drop at_.toNat) (l₂ := ss.take at_.toNat)
    rw [List.take_append_drop] at this
    exact this
  have ok2 : SignList (ss.drop at_.toNat ++ ss.take at_.toNat) := ⟨pm.nodup_iff.mpr ok.1, fun s hs => ok.2 s (pm.mem_iff.mp hs)⟩
  have len2 : (ss.drop at_.toNat ++ ss.take at_.toNat).length = N := by rw [pm.length_eq, len]
  generalize ss.drop at_.toNat ++ ss.take at_.toNat = tt at *
  clear pm ok len
  repeat' done
  · rw [← List.map_reverse]
    exact q tt.reverse _ (by rw [List.length_reverse, len2]) ⟨(List.reverse_perm _).nodup_iff.mpr ok2.1, fun s hs => ok2.2 s (List.mem_reverse.mp hs)⟩
  · unfold code_law_signs_r1
    repeat' done
    exact q tt _ (by rw [len2]) ok2
end VS.K16
namespace VS.K16
open VS
local macro_rules | `(tactic| done) => `(tactic| first
  | with_reducible refine Wp_seq ?_
  | with_reducible refine seq_nx ?_
  | with_reducible refine seq_ret ?_
  | with_reducible refine seq_brk ?_
  | with_reducible refine seq_cnt ?_
  | with_reducible refine Wp_asg ?_
  | ((with_reducible apply Wp_app); (· exact rfl))
  | with_reducible refine Wp_setIx ?_
  | ((with_reducible apply isLst_and); (· exact rfl))
  | ((with_reducible apply asg_o); (· repeat (first | exact Upd.zL | exact Upd.zN | exact Upd.zA (by assumption) | apply Upd.s)))
  | ((with_reducible apply asg_b); (· exact rfl); (· repeat (first | exact Upd.zL | exact Upd.zN | exact Upd.zA (by assumption) | apply Upd.s)); (· repeat (first | exact Upd.zL | exact Upd.zN | exact Upd.zA (by assumption) | apply Upd.s)))
  | with_reducible refine Wp_op ?_
  | with_reducible refine Wp_cons ?_
  | with_reducible refine Wp_nil ?_
  | with_reducible refine Wp_call ?_
  | ((with_reducible apply Wp_var); (· exact rfl))
  | ((with_reducible apply Wp_varB); (· exact rfl); (· exact rfl))
  | with_reducible refine Wp_c ?_
  | with_reducible refine Wp_dict0 ?_
  | ((with_reducible apply Wp_pure); (· exact rfl))
  | with_reducible refine Wp_sret ?_
  | with_reducible refine ret_o ?_
  | ((with_reducible apply ret_b); (· exact rfl); (· repeat (first | exact Upd.zL | exact Upd.zN | exact Upd.zA (by assumption) | apply Upd.s)))
  | with_reducible refine Wp_sretN ?_
  | with_reducible refine Wp_if ?_
  | with_reducible refine Wp_next ?_
  | with_reducible refine Wp_brk ?_
  | with_reducible refine Wp_cnt ?_
  | with_reducible refine Wp_drop ?_
  | with_reducible refine Wp_test ?_
  | with_reducible refine Wp_and ?_
  | with_reducible refine Wp_or ?_
  | with_reducible refine Wp_not ?_
  | with_reducible refine Wp_notV ?_
  | with_reducible refine Wp_andV ?_
  | with_reducible refine Wp_orV ?_
  | with_reducible refine Wp_ifE ?_
  | with_reducible refine Wp_yes ?_
  | with_reducible refine Wp_chain ?_
  | with_reducible refine Wp_for ?_
  | with_reducible refine Wp_slice ?_
  | with_reducible refine Wp_noPart ?_
  | with_reducible refine Wp_part ?_
  | with_reducible refine Wp_compI ?_
  | with_reducible refine Wp_range1 ?_
  | with_reducible refine Wp_range2 ?_
  | with_reducible refine Wp_anyI ?_
  | with_reducible refine any_vL ?_
  | with_reducible refine any_vT ?_
  | with_reducible refine any_oL ?_
  | with_reducible refine any_vS ?_
  | ((with_reducible apply any_bL); (· exact rfl); (· repeat (first | exact Upd.zL | exact Upd.zN | exact Upd.zA (by assumption) | apply Upd.s)))
  | with_reducible refine for_nx ?_
  | with_reducible refine for_cnt ?_
  | with_reducible refine for_brk ?_
  | with_reducible refine for_ret ?_
  | ((with_reducible apply fn_ret); (· repeat (first | exact Outs.n | apply Outs.t | apply Outs.f)))
  | ((with_reducible apply fn_nx); (· repeat (first | exact Outs.n | apply Outs.t | apply Outs.f)))
  | with_reducible refine Wp_meth ?_
  | with_reducible refine Wp_make ?_
  | ((with_reducible apply isIns_and); (· exact rfl))
  | ((with_reducible apply Ops_fld); (· exact rfl))
  | with_reducible refine Ops_add ?_
  | with_reducible refine Ops_sub ?_
  | ((with_reducible apply Ops_mul); (· first | exact .inl (by decide) | exact .inr (by decide) | with_reducible exact .inl (small_fmod (by decide) (by decide)) | with_reducible exact .inr (small_fmod (by decide) (by decide)) | exact .inl (small_of (by omega) (by omega)) | exact .inr (small_of (by omega) (by omega))))
  | ((with_reducible apply Ops_div); (· first | omega | decide); (· first | omega | decide))
  | ((with_reducible apply Ops_mod); (· first | omega | decide))
  | ((with_reducible apply Ops_powL); (· decide); (· simp only [Int.reduceToNat, Int.reducePow]; exact rfl))
  | with_reducible refine Ops_neg ?_
  | with_reducible refine Ops_abs ?_
  | with_reducible refine Ops_max2 ?_
  | with_reducible refine Ops_min2 ?_
  | with_reducible refine Ops_inS ?_
  | with_reducible refine Ops_lt ?_
  | with_reducible refine Ops_le ?_
  | with_reducible refine Ops_gt ?_
  | with_reducible refine Ops_ge ?_
  | with_reducible refine Ops_eqI ?_
  | with_reducible refine Ops_neI ?_
  | ((with_reducible apply Ops_lenT))
  | with_reducible refine Ops_lenW ?_
  | ((with_reducible apply Ops_lenN))
  | ((with_reducible apply Ops_len); (· first | exact RD.v | exact RD.ol | exact RD.b rfl | exact RD.any rfl))
  | ((with_reducible apply Ops_lenS); (· first | (unfold maxLen; omega) | (simp only [List.length_map, List.length_append, List.length_cons, List.length_nil, List.length_reverse]; unfold maxLen; omega) | decide))
  | ((with_reducible apply Ops_addS); (· first | (unfold maxLen; omega) | (simp only [List.length_map, List.length_append, List.length_cons, List.length_nil, List.length_reverse]; unfold maxLen; omega) | decide))
  | ((with_reducible apply Ops_lstV); (· repeat (first | exact RVals.n | apply RVals.c)); (· exact Nat.le_of_ble_eq_true rfl))
  | ((with_reducible apply Ops_tupV); (· repeat (first | exact RVals.n | apply RVals.c)); (· exact Nat.le_of_ble_eq_true rfl))
  | ((with_reducible apply Ops_lst); (· repeat (first | exact Settles.n | apply Settles.c Settle.o)); (· exact Nat.le_of_ble_eq_true rfl))
  | ((with_reducible apply Ops_tup); (· repeat (first | exact Settles.n | apply Settles.c Settle.o)); (· exact Nat.le_of_ble_eq_true rfl))
  | ((with_reducible apply Ops_isT); (· exact rfl); (· exact rfl))
  | ((with_reducible apply Ops_eqD); (· first | exact RD.v | exact RD.ol | exact RD.b rfl | exact RD.any rfl); (· first | exact RD.v | exact RD.ol | exact RD.b rfl | exact RD.any rfl); (· first | exact okE_ints _ | exact okE_words _ | exact okE_pairs _ | exact okE_tints _ | exact okE_w _ | exact okE_cutT _ _ _ | exact okE_cutL _ _ _ | rfl | assumption); (· first | exact okE_ints _ | exact okE_words _ | exact okE_pairs _ | exact okE_tints _ | exact okE_w _ | exact okE_cutT _ _ _ | exact okE_cutL _ _ _ | rfl | assumption))
  | ((with_reducible apply Ops_neD); (· first | exact RD.v | exact RD.ol | exact RD.b rfl | exact RD.any rfl); (· first | exact RD.v | exact RD.ol | exact RD.b rfl | exact RD.any rfl); (· first | exact okE_ints _ | exact okE_words _ | exact okE_pairs _ | exact okE_tints _ | exact okE_w _ | exact okE_cutT _ _ _ | exact okE_cutL _ _ _ | rfl | assumption); (· first | exact okE_ints _ | exact okE_words _ | exact okE_pairs _ | exact okE_tints _ | exact okE_w _ | exact okE_cutT _ _ _ | exact okE_cutL _ _ _ | rfl | assumption))
  | ((with_reducible apply Ops_isN); (· exact rfl))
  | ((with_reducible apply Ops_isNotN); (· exact rfl))
  | ((with_reducible apply Ops_cat); (· first | exact Items.ol | exact Items.vl | exact Items.vt | exact Items.b rfl | exact Items.ol2 rfl | exact Items.b2 rfl rfl); (· first | exact Items.ol | exact Items.vl | exact Items.vt | exact Items.b rfl | exact Items.ol2 rfl | exact Items.b2 rfl rfl); (· first | (unfold maxLen; omega) | (simp only [List.length_map, List.length_append, List.length_cons, List.length_nil, List.length_reverse]; unfold maxLen; omega) | decide))
  | ((with_reducible apply Ops_catT); (· first | exact Items.ol | exact Items.vl | exact Items.vt | exact Items.b rfl | exact Items.ol2 rfl | exact Items.b2 rfl rfl); (· first | exact Items.ol | exact Items.vl | exact Items.vt | exact Items.b rfl | exact Items.ol2 rfl | exact Items.b2 rfl rfl); (· first | (unfold maxLen; omega) | (simp only [List.length_map, List.length_append, List.length_cons, List.length_nil, List.length_reverse]; unfold maxLen; omega) | decide))
  | ((with_reducible apply Ops_list); (· first | exact Items.ol | exact Items.vl | exact Items.vt | exact Items.b rfl | exact Items.ol2 rfl | exact Items.b2 rfl rfl))
  | ((with_reducible apply Ops_ix); (· first | exact Items.ol | exact Items.vl | exact Items.vt | exact Items.b rfl | exact Items.ol2 rfl | exact Items.b2 rfl rfl); (· exact rfl))
  | ((with_reducible apply Ops_revL); (· first | exact Items.ol | exact Items.vl | exact Items.vt | exact Items.b rfl | exact Items.ol2 rfl | exact Items.b2 rfl rfl))
  | ((with_reducible apply Ops_revT); (· first | exact Items.ol | exact Items.vl | exact Items.vt | exact Items.b rfl | exact Items.ol2 rfl | exact Items.b2 rfl rfl))
  | with_reducible refine Ops_intI ?_
  | with_reducible refine Wp_par ?_
  | ((with_reducible apply par_oo); (· repeat (first | exact Upd.zL | exact Upd.zN | exact Upd.zA (by assumption) | apply Upd.s)); (· repeat (first | exact Upd.zL | exact Upd.zN | exact Upd.zA (by assumption) | apply Upd.s)))
  | with_reducible refine Wp_range3 ?_
  | ((with_reducible apply Ops_tuple); (· first | exact Items.ol | exact Items.vl | exact Items.vt | exact Items.b rfl | exact Items.ol2 rfl | exact Items.b2 rfl rfl))
  | ((with_reducible apply append_plain); (· exact rfl); (· first | (unfold maxLen; omega) | (simp only [List.length_map, List.length_append, List.length_cons, List.length_nil, List.length_reverse]; unfold maxLen; omega) | decide); (· repeat (first | exact Put.zL | exact Put.zP | apply Put.s)))
  | ((with_reducible apply Sl_scr))
  | ((with_reducible apply Sl_lst); (· first | exact Items.ol | exact Items.vl | exact Items.vt | exact Items.b rfl | exact Items.ol2 rfl | exact Items.b2 rfl rfl))
  | ((with_reducible apply Sl_tup); (· first | exact Items.ol | exact Items.vl | exact Items.vt | exact Items.b rfl | exact Items.ol2 rfl | exact Items.b2 rfl rfl))
  | ((with_reducible apply Sl_str); (· first | (unfold maxLen; omega) | (simp only [List.length_map, List.length_append, List.length_cons, List.length_nil, List.length_reverse]; unfold maxLen; omega) | decide))
  | ((with_reducible apply callQ_draw); (· exact rfl); (· first | omega | decide); (· first | omega | decide); intro _ _ _ _)
  | ((with_reducible apply bigI_and); (· first | omega | (simp only [List.length_map, List.length_append, List.length_cons, List.length_nil, List.length_reverse]; omega)); (· first | omega | (simp only [List.length_map, List.length_append, List.length_cons, List.length_nil, List.length_reverse]; omega)))
  | (refine ⟨_, (by repeat (first | exact Put.zL | exact Put.zP | apply Put.s) : Put _ _ _ _), ?_⟩)
  | with_reducible refine ⟨_, rfl, ?_⟩
  | with_reducible refine ⟨_, _, rfl, rfl, ?_⟩
  | with_reducible refine br_t ?_
  | with_reducible refine br_f ?_
  | (with_reducible refine br_dec ?_ ?_ <;> intro _)
  | (with_reducible refine br_ndec ?_ ?_ <;> intro _)
  | with_reducible refine br_not ?_
  | ((with_reducible apply br_tr); (· exact rfl))
  | ((with_reducible apply br_fl); (· exact rfl))
  | ((with_reducible refine br_b ?_ ?_) <;> intro _))
def BW (M : Int) (w : List Int) : Prop := w ≠ [] ∧ (w.length : Int) ≤ M ∧ ∀ b ∈ w, 0 ≤ b ∧ b < 256
theorem BW.mono {M N : Int} {w : List Int} (h : BW M w) (hm : M ≤ N) : BW N w := ⟨h.1, by have := h.2.1; omega, h.2.2⟩
theorem pD_inj : ∀ a b : Int × List Int, pD a = pD b → a = b := fun a b h => by
  obtain ⟨a1, a2⟩ := a
  obtain ⟨b1, b2⟩ := b
  simp only [pD, wD, D.tup.injEq, List.cons.injEq, D.int.injEq, and_true] at h
  obtain ⟨h1, h2⟩ := h
  have h3 := eqDs_ints a2 b2
  rw [h2] at h3
  have h4 := eqDs_ints b2 b2
  rw [h4] at h3
  simp at h3
  rw [h1, h3]
structure Good (ps : List (Int × List Int)) : Prop where
  bw : ∀ p ∈ ps, BW 4 p.2
  sg : (ps.map (·.1)).Nodup
  pf : (ps.map (·.2)).Pairwise PFree
theorem at_odds_fs (p q : Int × List Int) (hs : p.1 ≠ q.1) (hf : PFree p.2 q.2) (hp : (p.2.length : Int) ≤ 4) (hq : (q.2.length : Int) ≤ 4) {Q : O → List O → Prop} {X : Exc → List O → Prop} (h : Q (.val .non) [.val (pD p), .val (pD q)]) : FS sem_at_odds [.val (pD p), .val (pD q)] Q X := by
  refine FS_fnI (by repeat constructor) ?_
  unfold code_at_odds
  unfold pD
  repeat' done
  · rename_i e
    exact absurd e hs
  unfold code_at_odds_r2 wD
  repeat' done
  · rename_i e
    exfalso
    rw [cutD_map, cutD_map, eqD_tints, decide_eq_true_eq] at e
    simp only [List.length_map] at e
    rw [cutD_take _ (by split <;> omega), cutD_take _ (by split <;> omega)] at e
    split at e
    · rename_i hlt
      have e1 : ((q.2.length : Int)).toNat = q.2.length := by omega
      rw [e1, List.take_length] at e
      exact hf.2 (by rw [← e]; exact List.take_prefix _ _)
    · rename_i hlt
      have e1 : ((p.2.length : Int)).toNat = p.2.length := by omega
      rw [e1, List.take_length] at e
      exact hf.1 (by rw [e]; exact List.take_prefix _ _)
  · unfold code_at_odds_r1
    repeat' done
    exact h
theorem fault_fs (ps : List (Int × List Int)) (hps : Good ps) (hl : ps.length ≤ 1000) {Q : O → List O → Prop} {X : Exc → List O → Prop} (h : Q (.val .non) [.val (.lst (ps.map pD))]) : FS sem_fault [.val (.lst (ps.map pD))] Q X := by
  refine FS_fnI (by repeat constructor) ?_
  unfold code_fault
  repeat' done
  rw [List.length_map]
  refine Wp_forR0 (Int.natCast_nonneg _) (fun k e => ∃ c1 c2 c3, LN c1 ∧ LN c2 ∧ LN c3 ∧ e = [.loc (.val (.lst (ps.map pD))), c1, c2, c3]) (fun k e hk0 hk hI => ?_) (fun e hI => ?_) ⟨.no, .no, .no, (by exact True.intro), (by exact True.intro), (by exact True.intro), rfl⟩
  · obtain ⟨c1, c2, c3, h1, h2, h3, rfl⟩ := hI
    refine ⟨_, .name (by repeat (first | exact Upd.zA h1 | apply Upd.s)), ?_⟩
    unfold code_fault_b2
    repeat' done
    refine Wp_forR0 hk0 (fun j e => ∃ c2 c3, LN c2 ∧ LN c3 ∧ e = [.loc (.val (.lst (ps.map pD))), .loc (.val (.int k)), c2, c3]) (fun j e hj0 hj hI => ?_) (fun e hI => ?_) ⟨c2, c3, h2, h3, rfl⟩
    · obtain ⟨c2, c3, h2, h3, rfl⟩ := hI
      refine ⟨_, .name (by repeat (first | exact Upd.zA h2 | apply Upd.s)), ?_⟩
      unfold code_fault_b1
      repeat' done
      refine Ops_ixR .vl hj0 (by omega) fun p hp hpm => ?_
      repeat' done
      refine Ops_ixR .vl hk0 (by omega) fun q hq hqm => ?_
      repeat' done
      have hij : j.toNat < k.toNat := by omega
      have hs : p.1 ≠ q.1 := by
        have := List.pairwise_iff_getElem.mp (List.nodup_iff_pairwise_ne.mp hps.sg) j.toNat k.toNat (by rw [List.length_map]; omega) (by rw [List.length_map]; omega) hij
        rw [List.getElem_map, List.getElem_map] at this
        rw [(List.getElem?_eq_some_iff.mp hp).2, (List.getElem?_eq_some_iff.mp hq).2] at this
        exact this
      have hf : PFree p.2 q.2 := by
        have := List.pairwise_iff_getElem.mp hps.pf j.toNat k.toNat (by rw [List.length_map]; omega) (by rw [List.length_map]; omega) hij
        rw [List.getElem_map, List.getElem_map] at this
        rw [(List.getElem?_eq_some_iff.mp hp).2, (List.getElem?_eq_some_iff.mp hq).2] at this
        exact this
      refine callQ_mk (Args.fv (Args.fv Args.n)) rfl rfl (at_odds_fs p q hs hf (hps.bw p hpm).2.1 (hps.bw q hqm).2.1 ⟨_, .f (.f .n), ?_⟩)
      repeat' done
      exact ⟨_, _, (by exact True.intro), (by exact True.intro), rfl⟩
    · obtain ⟨c2, c3, h2, h3, rfl⟩ := hI
      exact for_nx ⟨_, _, _, (by exact True.intro), h2, h3, rfl⟩
  · obtain ⟨c1, c2, c3, h1, h2, h3, rfl⟩ := hI
    refine seq_nx ?_
    unfold code_fault_r1
    repeat' done
    exact h
end VS.K16
namespace VS.K16
open VS
local macro_rules | `(tactic| done) => `(tactic| first
  | with_reducible refine Wp_seq ?_
  | with_reducible refine seq_nx ?_
  | with_reducible refine seq_ret ?_
  | with_reducible refine seq_brk ?_
  | with_reducible refine seq_cnt ?_
  | with_reducible refine Wp_asg ?_
  | ((with_reducible apply Wp_app); (· exact rfl))
  | with_reducible refine Wp_setIx ?_
  | ((with_reducible apply isLst_and); (· exact rfl))
  | ((with_reducible apply asg_o); (· repeat (first | exact Upd.zL | exact Upd.zN | exact Upd.zA (by assumption) | apply Upd.s)))
  | ((with_reducible apply asg_b); (· exact rfl); (· repeat (first | exact Upd.zL | exact Upd.zN | exact Upd.zA (by assumption) | apply Upd.s)); (· repeat (first | exact Upd.zL | exact Upd.zN | exact Upd.zA (by assumption) | apply Upd.s)))
  | with_reducible refine Wp_op ?_
  | with_reducible refine Wp_cons ?_
  | with_reducible refine Wp_nil ?_
  | with_reducible refine Wp_call ?_
  | ((with_reducible apply Wp_var); (· exact rfl))
  | ((with_reducible apply Wp_varB); (· exact rfl); (· exact rfl))
  | with_reducible refine Wp_c ?_
  | with_reducible refine Wp_dict0 ?_
  | ((with_reducible apply Wp_pure); (· exact rfl))
  | with_reducible refine Wp_sret ?_
  | with_reducible refine ret_o ?_
  | ((with_reducible apply ret_b); (· exact rfl); (· repeat (first | exact Upd.zL | exact Upd.zN | exact Upd.zA (by assumption) | apply Upd.s)))
  | with_reducible refine Wp_sretN ?_
  | with_reducible refine Wp_if ?_
  | with_reducible refine Wp_next ?_
  | with_reducible refine Wp_brk ?_
  | with_reducible refine Wp_cnt ?_
  | with_reducible refine Wp_drop ?_
  | with_reducible refine Wp_test ?_
  | with_reducible refine Wp_and ?_
  | with_reducible refine Wp_or ?_
  | with_reducible refine Wp_not ?_
  | with_reducible refine Wp_notV ?_
  | with_reducible refine Wp_andV ?_
  | with_reducible refine Wp_orV ?_
  | with_reducible refine Wp_ifE ?_
  | with_reducible refine Wp_yes ?_
  | with_reducible refine Wp_chain ?_
  | with_reducible refine Wp_for ?_
  | with_reducible refine Wp_slice ?_
  | with_reducible refine Wp_noPart ?_
  | with_reducible refine Wp_part ?_
  | with_reducible refine Wp_compI ?_
  | with_reducible refine Wp_range1 ?_
  | with_reducible refine Wp_range2 ?_
  | with_reducible refine Wp_anyI ?_
  | with_reducible refine any_vL ?_
  | with_reducible refine any_vT ?_
  | with_reducible refine any_oL ?_
  | with_reducible refine any_vS ?_
  | ((with_reducible apply any_bL); (· exact rfl); (· repeat (first | exact Upd.zL | exact Upd.zN | exact Upd.zA (by assumption) | apply Upd.s)))
  | with_reducible refine for_nx ?_
  | with_reducible refine for_cnt ?_
  | with_reducible refine for_brk ?_
  | with_reducible refine for_ret ?_
  | ((with_reducible apply fn_ret); (· repeat (first | exact Outs.n | apply Outs.t | apply Outs.f)))
  | ((with_reducible apply fn_nx); (· repeat (first | exact Outs.n | apply Outs.t | apply Outs.f)))
  | with_reducible refine Wp_meth ?_
  | with_reducible refine Wp_make ?_
  | ((with_reducible apply isIns_and); (· exact rfl))
  | ((with_reducible apply Ops_fld); (· exact rfl))
  | with_reducible refine Ops_add ?_
  | with_reducible refine Ops_sub ?_
  | ((with_reducible apply Ops_mul); (· first | exact .inl (by decide) | exact .inr (by decide) | with_reducible exact .inl (small_fmod (by decide) (by decide)) | with_reducible exact .inr (small_fmod (by decide) (by decide)) | exact .inl (small_of (by omega) (by omega)) | exact .inr (small_of (by omega) (by omega))))
  | ((with_reducible apply Ops_div); (· first | omega | decide); (· first | omega | decide))
  | ((with_reducible apply Ops_mod); (· first | omega | decide))
  | ((with_reducible apply Ops_powL); (· decide); (· simp only [Int.reduceToNat, Int.reducePow]; exact rfl))
  | with_reducible refine Ops_neg ?_
  | with_reducible refine Ops_abs ?_
  | with_reducible refine Ops_max2 ?_
  | with_reducible refine Ops_min2 ?_
  | with_reducible refine Ops_inS ?_
  | with_reducible refine Ops_lt ?_
  | with_reducible refine Ops_le ?_
  | with_reducible refine Ops_gt ?_
  | with_reducible refine Ops_ge ?_
  | with_reducible refine Ops_eqI ?_
  | with_reducible refine Ops_neI ?_
  | ((with_reducible apply Ops_lenT))
  | with_reducible refine Ops_lenW ?_
  | ((with_reducible apply Ops_lenN))
  | ((with_reducible apply Ops_len); (· first | exact RD.v | exact RD.ol | exact RD.b rfl | exact RD.any rfl))
  | ((with_reducible apply Ops_lenS); (· first | (unfold maxLen; omega) | (simp only [List.length_map, List.length_append, List.length_cons, List.length_nil, List.length_reverse]; unfold maxLen; omega) | decide))
  | ((with_reducible apply Ops_addS); (· first | (unfold maxLen; omega) | (simp only [List.length_map, List.length_append, List.length_cons, List.length_nil, List.length_reverse]; unfold maxLen; omega) | decide))
  | ((with_reducible apply Ops_lstV); (· repeat (first | exact RVals.n | apply RVals.c)); (· exact Nat.le_of_ble_eq_true rfl))
  | ((with_reducible apply Ops_tupV); (· repeat (first | exact RVals.n | apply RVals.c)); (· exact Nat.le_of_ble_eq_true rfl))
  | ((with_reducible apply Ops_lst); (· repeat (first | exact Settles.n | apply Settles.c Settle.o)); (· exact Nat.le_of_ble_eq_true rfl))
  | ((with_reducible apply Ops_tup); (· repeat (first | exact Settles.n | apply Settles.c Settle.o)); (· exact Nat.le_of_ble_eq_true rfl))
  | ((with_reducible apply Ops_isT); (· exact rfl); (· exact rfl))
  | ((with_reducible apply Ops_eqD); (· first | exact RD.v | exact RD.ol | exact RD.b rfl | exact RD.any rfl); (· first | exact RD.v | exact RD.ol | exact RD.b rfl | exact RD.any rfl); (· first | exact okE_ints _ | exact okE_words _ | exact okE_pairs _ | exact okE_tints _ | exact okE_w _ | exact okE_cutT _ _ _ | exact okE_cutL _ _ _ | rfl | assumption); (· first | exact okE_ints _ | exact okE_words _ | exact okE_pairs _ | exact okE_tints _ | exact okE_w _ | exact okE_cutT _ _ _ | exact okE_cutL _ _ _ | rfl | assumption))
  | ((with_reducible apply Ops_neD); (· first | exact RD.v | exact RD.ol | exact RD.b rfl | exact RD.any rfl); (· first | exact RD.v | exact RD.ol | exact RD.b rfl | exact RD.any rfl); (· first | exact okE_ints _ | exact okE_words _ | exact okE_pairs _ | exact okE_tints _ | exact okE_w _ | exact okE_cutT _ _ _ | exact okE_cutL _ _ _ | rfl | assumption); (· first | exact okE_ints _ | exact okE_words _ | exact okE_pairs _ | exact okE_tints _ | exact okE_w _ | exact okE_cutT _ _ _ | exact okE_cutL _ _ _ | rfl | assumption))
  | ((with_reducible apply Ops_isN); (· exact rfl))
  | ((with_reducible apply Ops_isNotN); (· exact rfl))
  | ((with_reducible apply Ops_cat); (· first | exact Items.ol | exact Items.vl | exact Items.vt | exact Items.b rfl | exact Items.ol2 rfl | exact Items.b2 rfl rfl); (· first | exact Items.ol | exact Items.vl | exact Items.vt | exact Items.b rfl | exact Items.ol2 rfl | exact Items.b2 rfl rfl); (· first | (unfold maxLen; omega) | (simp only [List.length_map, List.length_append, List.length_cons, List.length_nil, List.length_reverse]; unfold maxLen; omega) | decide))
  | ((with_reducible apply Ops_catT); (· first | exact Items.ol | exact Items.vl | exact Items.vt | exact Items.b rfl | exact Items.ol2 rfl | exact Items.b2 rfl rfl); (· first | exact Items.ol | exact Items.vl | exact Items.vt | exact Items.b rfl | exact Items.ol2 rfl | exact Items.b2 rfl rfl); (· first | (unfold maxLen; omega) | (simp only [List.length_map, List.length_append, List.length_cons, List.length_nil, List.length_reverse]; unfold maxLen; omega) | decide))
  | ((with_reducible apply Ops_list); (· first | exact Items.ol | exact Items.vl | exact Items.vt | exact Items.b rfl | exact Items.ol2 rfl | exact Items.b2 rfl rfl))
  | ((with_reducible apply Ops_ix); (· first | exact Items.ol | exact Items.vl | exact Items.vt | exact Items.b rfl | exact Items.ol2 rfl | exact Items.b2 rfl rfl); (· exact rfl))
  | ((with_reducible apply Ops_revL); (· first | exact Items.ol | exact Items.vl | exact Items.vt | exact Items.b rfl | exact Items.ol2 rfl | exact Items.b2 rfl rfl))
  | ((with_reducible apply Ops_revT); (· first | exact Items.ol | exact Items.vl | exact Items.vt | exact Items.b rfl | exact Items.ol2 rfl | exact Items.b2 rfl rfl))
  | with_reducible refine Ops_intI ?_
  | with_reducible refine Wp_par ?_
  | ((with_reducible apply par_oo); (· repeat (first | exact Upd.zL | exact Upd.zN | exact Upd.zA (by assumption) | apply Upd.s)); (· repeat (first | exact Upd.zL | exact Upd.zN | exact Upd.zA (by assumption) | apply Upd.s)))
  | with_reducible refine Wp_range3 ?_
  | ((with_reducible apply Ops_tuple); (· first | exact Items.ol | exact Items.vl | exact Items.vt | exact Items.b rfl | exact Items.ol2 rfl | exact Items.b2 rfl rfl))
  | ((with_reducible apply append_plain); (· exact rfl); (· first | (unfold maxLen; omega) | (simp only [List.length_map, List.length_append, List.length_cons, List.length_nil, List.length_reverse]; unfold maxLen; omega) | decide); (· repeat (first | exact Put.zL | exact Put.zP | apply Put.s)))
  | ((with_reducible apply Sl_scr))
  | ((with_reducible apply Sl_lst); (· first | exact Items.ol | exact Items.vl | exact Items.vt | exact Items.b rfl | exact Items.ol2 rfl | exact Items.b2 rfl rfl))
  | ((with_reducible apply Sl_tup); (· first | exact Items.ol | exact Items.vl | exact Items.vt | exact Items.b rfl | exact Items.ol2 rfl | exact Items.b2 rfl rfl))
  | ((with_reducible apply Sl_str); (· first | (unfold maxLen; omega) | (simp only [List.length_map, List.length_append, List.length_cons, List.length_nil, List.length_reverse]; unfold maxLen; omega) | decide))
  | ((with_reducible apply callQ_draw); (· exact rfl); (· first | omega | decide); (· first | omega | decide); intro _ _ _ _)
  | ((with_reducible apply bigI_and); (· first | omega | (simp only [List.length_map, List.length_append, List.length_cons, List.length_nil, List.length_reverse]; omega)); (· first | omega | (simp only [List.length_map, List.length_append, List.length_cons, List.length_nil, List.length_reverse]; omega)))
  | (refine ⟨_, (by repeat (first | exact Put.zL | exact Put.zP | apply Put.s) : Put _ _ _ _), ?_⟩)
  | with_reducible refine ⟨_, rfl, ?_⟩
  | with_reducible refine ⟨_, _, rfl, rfl, ?_⟩
  | with_reducible refine br_t ?_
  | with_reducible refine br_f ?_
  | (with_reducible refine br_dec ?_ ?_ <;> intro _)
  | (with_reducible refine br_ndec ?_ ?_ <;> intro _)
  | with_reducible refine br_not ?_
  | ((with_reducible apply br_tr); (· exact rfl))
  | ((with_reducible apply br_fl); (· exact rfl))
  | ((with_reducible refine br_b ?_ ?_) <;> intro _))
theorem keyB_ii (a b : Int) : keyB (.int a) (.int b) = decide (a = b) := rfl
theorem scBs_ints : ∀ a b : List Int, scBs (a.map .int) (b.map .int) = decide (a = b)
  | [], [] => rfl
  | [], b :: bs => by simp [scBs]
  | a :: as, [] => by simp [scBs]
  | a :: as, b :: bs => by
    simp only [List.map_cons, scBs, scB, scBs_ints as bs, List.cons.injEq]
    exact (Bool.decide_and _ _).symm
theorem keyB_ww (a b : List Int) : keyB (wD a) (wD b) = decide (a = b) := by unfold wD; simp only [keyB]; exact scBs_ints a b
theorem okKey_w (a : List Int) : okKey true (wD a) = true := by
  unfold wD okKey
  refine List.all_eq_true.mpr fun x hx => ?_
  obtain ⟨i, _, rfl⟩ := List.mem_map.mp hx
  rfl
theorem putKD_new {α : Type} {ks : List (D × α)} {k : D} {x : α} (h : ∀ p ∈ ks, keyB p.1 k = false) : putKD ks k x = ks ++ [(k, x)] := by
  unfold putKD
  rw [if_neg]
  intro ha
  obtain ⟨p, hp, hk⟩ := List.any_eq_true.mp ha
  rw [h p hp] at hk
  cases hk
def kwO (p : Int × List Int) : D × O := (.int p.1, .val (wD p.2))
def krO (p : Int × List Int) : D × O := (wD p.2, .val (.int p.1))
def codeP (sp ws rs : List (Int × List Int)) : O := .ins 0 [(2, .val (.lst (sp.map pD))), (3, .dct false (ws.map kwO)), (1, .dct true (rs.map krO))]
def codeO (sp qs : List (Int × List Int)) : O := codeP sp qs qs
def wordsLe (p q : Int × List Int) : Bool := decide (p.2 ≤ q.2)
def byWord (ps : List (Int × List Int)) : List (Int × List Int) := ps.mergeSort wordsLe
theorem PFree.ne {a b : List Int} (h : PFree a b) : a ≠ b := fun e => h.1 (by rw [e]; exact List.prefix_refl _)
theorem Good.perm {ps qs : List (Int × List Int)} (h : Good ps) (p : qs.Perm ps) : Good qs :=
  ⟨fun x hx => h.bw x (p.mem_iff.mp hx), (p.map _).nodup_iff.mpr h.sg, (p.map _).symm.pairwise h.pf fun h => PFree.symm h⟩
theorem byWord_good {ps : List (Int × List Int)} (h : Good ps) : Good (byWord ps) := h.perm (List.mergeSort_perm _ _)
theorem init_b1 (sp qs rs : List (Int × List Int)) (p : Int × List Int) (hg : Good (qs ++ p :: rs)) (hl : qs.length ≤ 1000) (c1 c2 : Cell) {QS : Out → VEnv → Prop} {X : Exc → VEnv → Prop}
    (q : QS .nx [.par (codeO sp (qs ++ [p])), c1, c2, .loc (.val (.int p.1)), .loc (.val (wD p.2))]) : Wp code_Code___init___b1 [.par (codeO sp qs), c1, c2, .loc (.val (.int p.1)), .loc (.val (wD p.2))] QS X := by
  have hs : ∀ x ∈ qs, x.1 ≠ p.1 := fun x hx e => by
    have := List.nodup_iff_pairwise_ne.mp hg.sg
    rw [List.map_append, List.pairwise_append] at this
    exact this.2.2 x.1 (List.mem_map_of_mem hx) p.1 (by simp) e
  have hw : ∀ x ∈ qs, x.2 ≠ p.2 := fun x hx => by
    have := hg.pf
    rw [List.map_append, List.pairwise_append] at this
    exact PFree.ne (this.2.2 x.2 (List.mem_map_of_mem hx) p.2 (by simp))
  unfold code_Code___init___b1
  repeat' done
  refine Wp_setK ?_
  repeat' done
  refine ⟨_, _, 0, [1], _, false, _, [.par (codeP sp (qs ++ [p]) qs), c1, c2, .loc (.val (.int p.1)), .loc (.val (wD p.2))], .o, rfl, rfl, rfl, rfl, ?_, ?_, ?_⟩
  · rw [List.length_map]; unfold maxLen; omega
  · have : putKD (qs.map kwO) (.int p.1) (.val (wD p.2)) = (qs ++ [p]).map kwO := by
      rw [List.map_append]
      refine putKD_new fun y hy => ?_
      obtain ⟨x, hx, rfl⟩ := List.mem_map.mp hy
      show keyB (.int x.1) (.int p.1) = false
      rw [keyB_ii]; simp [hs x hx]
    show [Cell.par (codeP sp qs qs |>.put [1] (.dct false (putKD (qs.map kwO) (.int p.1) (.val (wD p.2))))), c1, c2, _, _] = _
    rw [this]; rfl
  repeat' done
  refine Wp_setK ?_
  repeat' done
  refine ⟨_, _, 0, [2], _, true, _, [.par (codeP sp (qs ++ [p]) (qs ++ [p])), c1, c2, .loc (.val (.int p.1)), .loc (.val (wD p.2))], .o, rfl, rfl, rfl, okKey_w _, ?_, ?_, ?_⟩
  · rw [List.length_map]; unfold maxLen; omega
  · have : putKD (qs.map krO) (wD p.2) (.val (.int p.1)) = (qs ++ [p]).map krO := by
      rw [List.map_append]
      refine putKD_new fun y hy => ?_
      obtain ⟨x, hx, rfl⟩ := List.mem_map.mp hy
      show keyB (wD x.2) (wD p.2) = false
      rw [keyB_ww]; simp [hw x hx]
    show [Cell.par (codeP sp (qs ++ [p]) qs |>.put [2] (.dct true (putKD (qs.map krO) (wD p.2) (.val (.int p.1))))), c1, c2, _, _] = _
    rw [this]; rfl
  exact q
theorem init_fs (ps : List (Int × List Int)) (hps : Good ps) (hl : ps.length ≤ 1000) {Q : O → List O → Prop} {X : Exc → List O → Prop} (h : Q (.val .non) [codeO (byWord ps) (byWord ps), .val (.lst (ps.map pD))]) : FS sem_Code___init__ [.ins 0 [], .val (.lst (ps.map pD))] Q X := by
  refine FS_fnI (by repeat constructor) ?_
  unfold code_Code___init__
  repeat' done
  refine callQ_mk (Args.fv Args.n) rfl rfl (fault_fs ps hps hl ⟨_, .f .n, ?_⟩)
  repeat' done
  unfold code_Code___init___r2
  repeat' done
  unfold code_Code___init___r1
  repeat' done
  refine Wp_setF ?_
  repeat' done
  refine Ops_sortSnd (f := pD) (w := fun p => p.2) .vl (fun x hx => ⟨?_, (hps.bw x hx).1⟩) ?_
  · show sndW (pD x) = some x.2
    unfold pD wD sndW
    have : ∀ l : List Int, allInt (l.map .int) = some l := fun l => by
      induction l with
      | nil => rfl
      | cons a l ih => rw [List.map_cons, allInt, ih]; rfl
    exact this _
  refine ⟨_, _, 0, [], _, [.par (.ins 0 [(2, oLst ((byWord ps).map pD))]), .loc (.val (.lst (ps.map pD))), .loc (.val .non), .no, .no], .o, rfl, rfl, by simp, rfl, ?_⟩
  repeat' done
  refine Wp_setF ?_
  repeat' done
  refine ⟨_, _, 0, [], _, [.par (.ins 0 [(2, oLst ((byWord ps).map pD)), (3, .dct false [])]), .loc (.val (.lst (ps.map pD))), .loc (.val .non), .no, .no], .o, rfl, rfl, by simp, rfl, ?_⟩
  repeat' done
  refine Wp_setF ?_
  repeat' done
  refine ⟨_, _, 0, [], _, [.par (.ins 0 [(2, oLst ((byWord ps).map pD)), (3, .dct false []), (1, .dct true [])]), .loc (.val (.lst (ps.map pD))), .loc (.val .non), .no, .no], .o, rfl, rfl, by simp, rfl, ?_⟩
  repeat' done
  refine Ops_fldB (k := 0) (m := 2) (o := oLst ((byWord ps).map pD)) (e1 := [.par (codeO (byWord ps) []), .loc (.val (.lst (ps.map pD))), .loc (.val .non), .no, .no]) rfl rfl rfl (by rw [oLst_data]; rfl) ?_
  rw [oLst_data]
  repeat' done
  have hg := byWord_good hps
  have hl2 : (byWord ps).length ≤ 1000 := by unfold byWord; rw [List.length_mergeSort]; exact hl
  generalize byWord ps = sp at *
  refine Wp_forL0 (fun ds rs e => ∃ qs c3 c4, LN c3 ∧ LN c4 ∧ ds = qs.map pD ∧ e = [.par (codeO sp qs), .loc (.val (.lst (ps.map pD))), .loc (.val .non), c3, c4]) (fun ds d rs e hd hI => ?_) (fun e hI => ?_) ⟨[], .no, .no, (by exact True.intro), (by exact True.intro), rfl, rfl⟩
  · obtain ⟨qs, c3, c4, h3, h4, rfl, rfl⟩ := hI
    obtain ⟨ys, zs, e1, e2, e3⟩ := List.map_eq_append_iff.mp hd
    obtain ⟨p, zs', rfl, rfl, e4⟩ := List.map_eq_cons_iff.mp e3
    have eq : ys = qs := (List.map_inj_right pD_inj).mp e2
    subst eq
    subst e1
    refine ⟨_, .tup2 (x1 := .val (.int p.1)) (x2 := .val (wD p.2)) rfl (.name (by repeat (first | exact Upd.zA h3 | apply Upd.s))) (.name (by repeat (first | exact Upd.zA h4 | apply Upd.s))), ?_⟩
    refine init_b1 _ ys zs' p hg (by rw [List.length_append] at hl2; omega) _ _ (for_nx ⟨ys ++ [p], _, _, (by exact True.intro), (by exact True.intro), by rw [List.map_append]; rfl, rfl⟩)
  · obtain ⟨qs, c3, c4, h3, h4, hq, rfl⟩ := hI
    have : qs = sp := (List.map_inj_right pD_inj).mp hq.symm
    subst this
    repeat' done
    exact h
end VS.K16
namespace VS.K16
open VS
local macro_rules | `(tactic| done) => `(tactic| first
  | with_reducible refine Wp_seq ?_
  | with_reducible refine seq_nx ?_
  | with_reducible refine seq_ret ?_
  | with_reducible refine seq_brk ?_
  | with_reducible refine seq_cnt ?_
  | with_reducible refine Wp_asg ?_
  | ((with_reducible apply Wp_app); (· exact rfl))
  | with_reducible refine Wp_setIx ?_
  | ((with_reducible apply isLst_and); (· exact rfl))
  | ((with_reducible apply asg_o); (· repeat (first | exact Upd.zL | exact Upd.zN | exact Upd.zA (by assumption) | apply Upd.s)))
  | ((with_reducible apply asg_b); (· exact rfl); (· repeat (first | exact Upd.zL | exact Upd.zN | exact Upd.zA (by assumption) | apply Upd.s)); (· repeat (first | exact Upd.zL | exact Upd.zN | exact Upd.zA (by assumption) | apply Upd.s)))
  | with_reducible refine Wp_op ?_
  | with_reducible refine Wp_cons ?_
  | with_reducible refine Wp_nil ?_
  | with_reducible refine Wp_call ?_
  | ((with_reducible apply Wp_var); (· exact rfl))
  | ((with_reducible apply Wp_varB); (· exact rfl); (· exact rfl))
  | with_reducible refine Wp_c ?_
  | with_reducible refine Wp_dict0 ?_
  | ((with_reducible apply Wp_pure); (· exact rfl))
  | with_reducible refine Wp_sret ?_
  | with_reducible refine ret_o ?_
  | ((with_reducible apply ret_b); (· exact rfl); (· repeat (first | exact Upd.zL | exact Upd.zN | exact Upd.zA (by assumption) | apply Upd.s)))
  | with_reducible refine Wp_sretN ?_
  | with_reducible refine Wp_if ?_
  | with_reducible refine Wp_next ?_
  | with_reducible refine Wp_brk ?_
  | with_reducible refine Wp_cnt ?_
  | with_reducible refine Wp_drop ?_
  | with_reducible refine Wp_test ?_
  | with_reducible refine Wp_and ?_
  | with_reducible refine Wp_or ?_
  | with_reducible refine Wp_not ?_
  | with_reducible refine Wp_notV ?_
  | with_reducible refine Wp_andV ?_
  | with_reducible refine Wp_orV ?_
  | with_reducible refine Wp_ifE ?_
  | with_reducible refine Wp_yes ?_
  | with_reducible refine Wp_chain ?_
  | with_reducible refine Wp_for ?_
  | with_reducible refine Wp_slice ?_
  | with_reducible refine Wp_noPart ?_
  | with_reducible refine Wp_part ?_
  | with_reducible refine Wp_compI ?_
  | with_reducible refine Wp_range1 ?_
  | with_reducible refine Wp_range2 ?_
  | with_reducible refine Wp_anyI ?_
  | with_reducible refine any_vL ?_
  | with_reducible refine any_vT ?_
  | with_reducible refine any_oL ?_
  | with_reducible refine any_vS ?_
  | ((with_reducible apply any_bL); (· exact rfl); (· repeat (first | exact Upd.zL | exact Upd.zN | exact Upd.zA (by assumption) | apply Upd.s)))
  | with_reducible refine for_nx ?_
  | with_reducible refine for_cnt ?_
  | with_reducible refine for_brk ?_
  | with_reducible refine for_ret ?_
  | ((with_reducible apply fn_ret); (· repeat (first | exact Outs.n | apply Outs.t | apply Outs.f)))
  | ((with_reducible apply fn_nx); (· repeat (first | exact Outs.n | apply Outs.t | apply Outs.f)))
  | with_reducible refine Wp_meth ?_
  | with_reducible refine Wp_make ?_
  | ((with_reducible apply isIns_and); (· exact rfl))
  | ((with_reducible apply Ops_fld); (· exact rfl))
  | with_reducible refine Ops_add ?_
  | with_reducible refine Ops_sub ?_
  | ((with_reducible apply Ops_mul); (· first | exact .inl (by decide) | exact .inr (by decide) | with_reducible exact .inl (small_fmod (by decide) (by decide)) | with_reducible exact .inr (small_fmod (by decide) (by decide)) | exact .inl (small_of (by omega) (by omega)) | exact .inr (small_of (by omega) (by omega))))
  | ((with_reducible apply Ops_div); (· first | omega | decide); (· first | omega | decide))
  | ((with_reducible apply Ops_mod); (· first | omega | decide))
  | ((with_reducible apply Ops_powL); (· decide); (· simp only [Int.reduceToNat, Int.reducePow]; exact rfl))
  | with_reducible refine Ops_neg ?_
  | with_reducible refine Ops_abs ?_
  | with_reducible refine Ops_max2 ?_
  | with_reducible refine Ops_min2 ?_
  | with_reducible refine Ops_inS ?_
  | with_reducible refine Ops_lt ?_
  | with_reducible refine Ops_le ?_
  | with_reducible refine Ops_gt ?_
  | with_reducible refine Ops_ge ?_
  | with_reducible refine Ops_eqI ?_
  | with_reducible refine Ops_neI ?_
  | ((with_reducible apply Ops_lenT))
  | with_reducible refine Ops_lenW ?_
  | ((with_reducible apply Ops_lenN))
  | ((with_reducible apply Ops_len); (· first | exact RD.v | exact RD.ol | exact RD.b rfl | exact RD.any rfl))
  | ((with_reducible apply Ops_lenS); (· first | (unfold maxLen; omega) | (simp only [List.length_map, List.length_append, List.length_cons, List.length_nil, List.length_reverse]; unfold maxLen; omega) | decide))
  | ((with_reducible apply Ops_addS); (· first | (unfold maxLen; omega) | (simp only [List.length_map, List.length_append, List.length_cons, List.length_nil, List.length_reverse]; unfold maxLen; omega) | decide))
  | ((with_reducible apply Ops_lstV); (· repeat (first | exact RVals.n | apply RVals.c)); (· exact Nat.le_of_ble_eq_true rfl))
  | ((with_reducible apply Ops_tupV); (· repeat (first | exact RVals.n | apply RVals.c)); (· exact Nat.le_of_ble_eq_true rfl))
  | ((with_reducible apply Ops_lst); (· repeat (first | exact Settles.n | apply Settles.c Settle.o)); (· exact Nat.le_of_ble_eq_true rfl))
  | ((with_reducible apply Ops_tup); (· repeat (first | exact Settles.n | apply Settles.c Settle.o)); (· exact Nat.le_of_ble_eq_true rfl))
  | ((with_reducible apply Ops_isT); (· exact rfl); (· exact rfl))
  | ((with_reducible apply Ops_eqD); (· first | exact RD.v | exact RD.ol | exact RD.b rfl | exact RD.any rfl); (· first | exact RD.v | exact RD.ol | exact RD.b rfl | exact RD.any rfl); (· first | exact okE_ints _ | exact okE_words _ | exact okE_pairs _ | exact okE_tints _ | exact okE_w _ | exact okE_cutT _ _ _ | exact okE_cutL _ _ _ | rfl | assumption); (· first | exact okE_ints _ | exact okE_words _ | exact okE_pairs _ | exact okE_tints _ | exact okE_w _ | exact okE_cutT _ _ _ | exact okE_cutL _ _ _ | rfl | assumption))
  | ((with_reducible apply Ops_neD); (· first | exact RD.v | exact RD.ol | exact RD.b rfl | exact RD.any rfl); (· first | exact RD.v | exact RD.ol | exact RD.b rfl | exact RD.any rfl); (· first | exact okE_ints _ | exact okE_words _ | exact okE_pairs _ | exact okE_tints _ | exact okE_w _ | exact okE_cutT _ _ _ | exact okE_cutL _ _ _ | rfl | assumption); (· first | exact okE_ints _ | exact okE_words _ | exact okE_pairs _ | exact okE_tints _ | exact okE_w _ | exact okE_cutT _ _ _ | exact okE_cutL _ _ _ | rfl | assumption))
  | ((with_reducible apply Ops_isN); (· exact rfl))
  | ((with_reducible apply Ops_isNotN); (· exact rfl))
  | ((with_reducible apply Ops_cat); (· first | exact Items.ol | exact Items.vl | exact Items.vt | exact Items.b rfl | exact Items.ol2 rfl | exact Items.b2 rfl rfl); (· first | exact Items.ol | exact Items.vl | exact Items.vt | exact Items.b rfl | exact Items.ol2 rfl | exact Items.b2 rfl rfl); (· first | (unfold maxLen; omega) | (simp only [List.length_map, List.length_append, List.length_cons, List.length_nil, List.length_reverse]; unfold maxLen; omega) | decide))
  | ((with_reducible apply Ops_catT); (· first | exact Items.ol | exact Items.vl | exact Items.vt | exact Items.b rfl | exact Items.ol2 rfl | exact Items.b2 rfl rfl); (· first | exact Items.ol | exact Items.vl | exact Items.vt | exact Items.b rfl | exact Items.ol2 rfl | exact Items.b2 rfl rfl); (· first | (unfold maxLen; omega) | (simp only [List.length_map, List.length_append, List.length_cons, List.length_nil, List.length_reverse]; unfold maxLen; omega) | decide))
  | ((with_reducible apply Ops_list); (· first | exact Items.ol | exact Items.vl | exact Items.vt | exact Items.b rfl | exact Items.ol2 rfl | exact Items.b2 rfl rfl))
  | ((with_reducible apply Ops_ix); (· first | exact Items.ol | exact Items.vl | exact Items.vt | exact Items.b rfl | exact Items.ol2 rfl | exact Items.b2 rfl rfl); (· exact rfl))
  | ((with_reducible apply Ops_revL); (· first | exact Items.ol | exact Items.vl | exact Items.vt | exact Items.b rfl | exact Items.ol2 rfl | exact Items.b2 rfl rfl))
  | ((with_reducible apply Ops_revT); (· first | exact Items.ol | exact Items.vl | exact Items.vt | exact Items.b rfl | exact Items.ol2 rfl | exact Items.b2 rfl rfl))
  | with_reducible refine Ops_intI ?_
  | with_reducible refine Wp_par ?_
  | ((with_reducible apply par_oo); (· repeat (first | exact Upd.zL | exact Upd.zN | exact Upd.zA (by assumption) | apply Upd.s)); (· repeat (first | exact Upd.zL | exact Upd.zN | exact Upd.zA (by assumption) | apply Upd.s)))
  | with_reducible refine Wp_range3 ?_
  | ((with_reducible apply Ops_tuple); (· first | exact Items.ol | exact Items.vl | exact Items.vt | exact Items.b rfl | exact Items.ol2 rfl | exact Items.b2 rfl rfl))
  | ((with_reducible apply append_plain); (· exact rfl); (· first | (unfold maxLen; omega) | (simp only [List.length_map, List.length_append, List.length_cons, List.length_nil, List.length_reverse]; unfold maxLen; omega) | decide); (· repeat (first | exact Put.zL | exact Put.zP | apply Put.s)))
  | ((with_reducible apply Sl_scr))
  | ((with_reducible apply Sl_lst); (· first | exact Items.ol | exact Items.vl | exact Items.vt | exact Items.b rfl | exact Items.ol2 rfl | exact Items.b2 rfl rfl))
  | ((with_reducible apply Sl_tup); (· first | exact Items.ol | exact Items.vl | exact Items.vt | exact Items.b rfl | exact Items.ol2 rfl | exact Items.b2 rfl rfl))
  | ((with_reducible apply Sl_str); (· first | (unfold maxLen; omega) | (simp only [List.length_map, List.length_append, List.length_cons, List.length_nil, List.length_reverse]; unfold maxLen; omega) | decide))
  | ((with_reducible apply callQ_draw); (· exact rfl); (· first | omega | decide); (· first | omega | decide); intro _ _ _ _)
  | ((with_reducible apply bigI_and); (· first | omega | (simp only [List.length_map, List.length_append, List.length_cons, List.length_nil, List.length_reverse]; omega)); (· first | omega | (simp only [List.length_map, List.length_append, List.length_cons, List.length_nil, List.length_reverse]; omega)))
  | (refine ⟨_, (by repeat (first | exact Put.zL | exact Put.zP | apply Put.s) : Put _ _ _ _), ?_⟩)
  | with_reducible refine ⟨_, rfl, ?_⟩
  | with_reducible refine ⟨_, _, rfl, rfl, ?_⟩
  | with_reducible refine br_t ?_
  | with_reducible refine br_f ?_
  | (with_reducible refine br_dec ?_ ?_ <;> intro _)
  | (with_reducible refine br_ndec ?_ ?_ <;> intro _)
  | with_reducible refine br_not ?_
  | ((with_reducible apply br_tr); (· exact rfl))
  | ((with_reducible apply br_fl); (· exact rfl))
  | ((with_reducible refine br_b ?_ ?_) <;> intro _))
def kwD (p : Int × List Int) : D × D := (.int p.1, wD p.2)
def krD (p : Int × List Int) : D × D := (wD p.2, .int p.1)
def codeD (sp : List (Int × List Int)) : D := .ins 0 [(2, .lst (sp.map pD)), (3, .dct false (sp.map kwD)), (1, .dct true (sp.map krD))]
theorem codeO_data (sp : List (Int × List Int)) : (codeO sp sp).data = codeD sp := by
  have h1 : dataK (sp.map kwO) = sp.map kwD := by rw [dataK_map, List.map_map]; rfl
  have h2 : dataK (sp.map krO) = sp.map krD := by rw [dataK_map, List.map_map]; rfl
  simp only [codeO, codeP, codeD, O.data, dataF, h1, h2]
def liveB (sp : List (Int × List Int)) (row : List Int) : Bool := sp.any fun p => decide (row.length < p.2.length) && decide (p.2.take row.length = row)
theorem allInt_map (l : List Int) : allInt (l.map .int) = some l := by
  induction l with
  | nil => rfl
  | cons a l ih => rw [List.map_cons, allInt, ih]; rfl
def liveF (row : List Int) : D → D
  | .tup ds => match allInt ds with
    | some w => .bl (decide (row.length < w.length) && decide (w.take row.length = row))
    | none => .non
  | d => d
theorem liveF_w (row w : List Int) : liveF row (wD w) = .bl (decide (row.length < w.length) && decide (w.take row.length = row)) := by
  unfold wD
  simp only [liveF, allInt_map]
theorem live_fs (sp : List (Int × List Int)) (hb : ∀ p ∈ sp, BW 4 p.2) (hl : sp.length ≤ 1000) (row : List Int) (hr : row.length ≤ 1000) {Q : O → List O → Prop} {X : Exc → List O → Prop} (h : Q (.val (.bl (liveB sp row))) [.val (codeD sp), .val (.lst (row.map .int))]) : FS sem_Code_live [.val (codeD sp), .val (.lst (row.map .int))] Q X := by
  refine FS_fnI (by repeat constructor) ?_
  unfold code_Code_live
  repeat' done
  refine Wp_keysF rfl rfl ?_
  refine compQ_map (liveF row) (.c .n (by repeat (first | exact Upd.zL | exact Upd.zN | exact Upd.zA (by assumption) | apply Upd.s))) (.c rfl .n (by repeat (first | exact Upd.zL | exact Upd.zN | exact Upd.zA (by assumption) | apply Upd.s))) ?_ (fun d hd => ?_) ?_
  · simp only [List.length_map]; unfold maxLen; omega
  · obtain ⟨kd, hkd, rfl⟩ := List.mem_map.mp hd
    obtain ⟨p, hp, rfl⟩ := List.mem_map.mp hkd
    refine ⟨_, .name (by repeat (first | exact Upd.zL | exact Upd.zN | exact Upd.zA (by assumption) | apply Upd.s)), ?_⟩
    repeat' done
    rw [show (krD p).fst = wD p.2 from rfl, liveF_w]
    repeat' done
    · rename_i hlt
      refine ⟨?_, .c .n (by repeat (first | exact Upd.zL | exact Upd.zN | exact Upd.zA (by assumption) | apply Upd.s))⟩
      rw [List.length_map] at hlt
      have hlt' : row.length < p.2.length := by omega
      rw [decide_eq_true hlt', Bool.true_and, cutD_map, eqD_tints, cutD_take _ (by omega), List.length_map]
      rw [show ((row.length : Int)).toNat = row.length by omega]
    · rename_i hlt
      refine ⟨?_, .c .n (by repeat (first | exact Upd.zL | exact Upd.zN | exact Upd.zA (by assumption) | apply Upd.s))⟩
      rw [List.length_map] at hlt
      have hlt' : ¬ row.length < p.2.length := by omega
      rw [decide_eq_false hlt', Bool.false_and]
  repeat' done
  refine Ops_any (fun p : Int × List Int => decide (row.length < p.2.length) && decide (p.2.take row.length = row)) (xs := sp) ?_ ?_
  · rw [List.map_map, List.map_map]
    refine List.map_congr_left fun p _ => ?_
    exact liveF_w row p.2
  repeat' done
  exact h
end VS.K16
namespace VS.K16
open VS
local macro_rules | `(tactic| done) => `(tactic| first
  | with_reducible refine Wp_seq ?_
  | with_reducible refine seq_nx ?_
  | with_reducible refine seq_ret ?_
  | with_reducible refine seq_brk ?_
  | with_reducible refine seq_cnt ?_
  | with_reducible refine Wp_asg ?_
  | ((with_reducible apply Wp_app); (· exact rfl))
  | with_reducible refine Wp_setIx ?_
  | ((with_reducible apply isLst_and); (· exact rfl))
  | ((with_reducible apply asg_o); (· repeat (first | exact Upd.zL | exact Upd.zN | exact Upd.zA (by assumption) | apply Upd.s)))
  | ((with_reducible apply asg_b); (· exact rfl); (· repeat (first | exact Upd.zL | exact Upd.zN | exact Upd.zA (by assumption) | apply Upd.s)); (· repeat (first | exact Upd.zL | exact Upd.zN | exact Upd.zA (by assumption) | apply Upd.s)))
  | with_reducible refine Wp_op ?_
  | with_reducible refine Wp_cons ?_
  | with_reducible refine Wp_nil ?_
  | with_reducible refine Wp_call ?_
  | ((with_reducible apply Wp_var); (· exact rfl))
  | ((with_reducible apply Wp_varB); (· exact rfl); (· exact rfl))
  | with_reducible refine Wp_c ?_
  | with_reducible refine Wp_dict0 ?_
  | ((with_reducible apply Wp_pure); (· exact rfl))
  | with_reducible refine Wp_sret ?_
  | with_reducible refine ret_o ?_
  | ((with_reducible apply ret_b); (· exact rfl); (· repeat (first | exact Upd.zL | exact Upd.zN | exact Upd.zA (by assumption) | apply Upd.s)))
  | with_reducible refine Wp_sretN ?_
  | with_reducible refine Wp_if ?_
  | with_reducible refine Wp_next ?_
  | with_reducible refine Wp_brk ?_
  | with_reducible refine Wp_cnt ?_
  | with_reducible refine Wp_drop ?_
  | with_reducible refine Wp_test ?_
  | with_reducible refine Wp_and ?_
  | with_reducible refine Wp_or ?_
  | with_reducible refine Wp_not ?_
  | with_reducible refine Wp_notV ?_
  | with_reducible refine Wp_andV ?_
  | with_reducible refine Wp_orV ?_
  | with_reducible refine Wp_ifE ?_
  | with_reducible refine Wp_yes ?_
  | with_reducible refine Wp_chain ?_
  | with_reducible refine Wp_for ?_
  | with_reducible refine Wp_slice ?_
  | with_reducible refine Wp_noPart ?_
  | with_reducible refine Wp_part ?_
  | with_reducible refine Wp_compI ?_
  | with_reducible refine Wp_range1 ?_
  | with_reducible refine Wp_range2 ?_
  | with_reducible refine Wp_anyI ?_
  | with_reducible refine any_vL ?_
  | with_reducible refine any_vT ?_
  | with_reducible refine any_oL ?_
  | with_reducible refine any_vS ?_
  | ((with_reducible apply any_bL); (· exact rfl); (· repeat (first | exact Upd.zL | exact Upd.zN | exact Upd.zA (by assumption) | apply Upd.s)))
  | with_reducible refine for_nx ?_
  | with_reducible refine for_cnt ?_
  | with_reducible refine for_brk ?_
  | with_reducible refine for_ret ?_
  | ((with_reducible apply fn_ret); (· repeat (first | exact Outs.n | apply Outs.t | apply Outs.f)))
  | ((with_reducible apply fn_nx); (· repeat (first | exact Outs.n | apply Outs.t | apply Outs.f)))
  | with_reducible refine Wp_meth ?_
  | with_reducible refine Wp_make ?_
  | ((with_reducible apply isIns_and); (· exact rfl))
  | ((with_reducible apply Ops_fld); (· exact rfl))
  | with_reducible refine Ops_add ?_
  | with_reducible refine Ops_sub ?_
  | ((with_reducible apply Ops_mul); (· first | exact .inl (by decide) | exact .inr (by decide) | with_reducible exact .inl (small_fmod (by decide) (by decide)) | with_reducible exact .inr (small_fmod (by decide) (by decide)) | exact .inl (small_of (by omega) (by omega)) | exact .inr (small_of (by omega) (by omega))))
  | ((with_reducible apply Ops_div); (· first | omega | decide); (· first | omega | decide))
  | ((with_reducible apply Ops_mod); (· first | omega | decide))
  | ((with_reducible apply Ops_powL); (· decide); (· simp only [Int.reduceToNat, Int.reducePow]; exact rfl))
  | with_reducible refine Ops_neg ?_
  | with_reducible refine Ops_abs ?_
  | with_reducible refine Ops_max2 ?_
  | with_reducible refine Ops_min2 ?_
  | with_reducible refine Ops_inS ?_
  | with_reducible refine Ops_lt ?_
  | with_reducible refine Ops_le ?_
  | with_reducible refine Ops_gt ?_
  | with_reducible refine Ops_ge ?_
  | with_reducible refine Ops_eqI ?_
  | with_reducible refine Ops_neI ?_
  | ((with_reducible apply Ops_lenT))
  | with_reducible refine Ops_lenW ?_
  | ((with_reducible apply Ops_lenN))
  | ((with_reducible apply Ops_len); (· first | exact RD.v | exact RD.ol | exact RD.b rfl | exact RD.any rfl))
  | ((with_reducible apply Ops_lenS); (· first | (unfold maxLen; omega) | (simp only [List.length_map, List.length_append, List.length_cons, List.length_nil, List.length_reverse]; unfold maxLen; omega) | decide))
  | ((with_reducible apply Ops_addS); (· first | (unfold maxLen; omega) | (simp only [List.length_map, List.length_append, List.length_cons, List.length_nil, List.length_reverse]; unfold maxLen; omega) | decide))
  | ((with_reducible apply Ops_lstV); (· repeat (first | exact RVals.n | apply RVals.c)); (· exact Nat.le_of_ble_eq_true rfl))
  | ((with_reducible apply Ops_tupV); (· repeat (first | exact RVals.n | apply RVals.c)); (· exact Nat.le_of_ble_eq_true rfl))
  | ((with_reducible apply Ops_lst); (· repeat (first | exact Settles.n | apply Settles.c Settle.o)); (· exact Nat.le_of_ble_eq_true rfl))
  | ((with_reducible apply Ops_tup); (· repeat (first | exact Settles.n | apply Settles.c Settle.o)); (· exact Nat.le_of_ble_eq_true rfl))
  | ((with_reducible apply Ops_isT); (· exact rfl); (· exact rfl))
  | ((with_reducible apply Ops_eqD); (· first | exact RD.v | exact RD.ol | exact RD.b rfl | exact RD.any rfl); (· first | exact RD.v | exact RD.ol | exact RD.b rfl | exact RD.any rfl); (· first | exact okE_ints _ | exact okE_words _ | exact okE_pairs _ | exact okE_tints _ | exact okE_w _ | exact okE_cutT _ _ _ | exact okE_cutL _ _ _ | rfl | assumption); (· first | exact okE_ints _ | exact okE_words _ | exact okE_pairs _ | exact okE_tints _ | exact okE_w _ | exact okE_cutT _ _ _ | exact okE_cutL _ _ _ | rfl | assumption))
  | ((with_reducible apply Ops_neD); (· first | exact RD.v | exact RD.ol | exact RD.b rfl | exact RD.any rfl); (· first | exact RD.v | exact RD.ol | exact RD.b rfl | exact RD.any rfl); (· first | exact okE_ints _ | exact okE_words _ | exact okE_pairs _ | exact okE_tints _ | exact okE_w _ | exact okE_cutT _ _ _ | exact okE_cutL _ _ _ | rfl | assumption); (· first | exact okE_ints _ | exact okE_words _ | exact okE_pairs _ | exact okE_tints _ | exact okE_w _ | exact okE_cutT _ _ _ | exact okE_cutL _ _ _ | rfl | assumption))
  | ((with_reducible apply Ops_isN); (· exact rfl))
  | ((with_reducible apply Ops_isNotN); (· exact rfl))
  | ((with_reducible apply Ops_cat); (· first | exact Items.ol | exact Items.vl | exact Items.vt | exact Items.b rfl | exact Items.ol2 rfl | exact Items.b2 rfl rfl); (· first | exact Items.ol | exact Items.vl | exact Items.vt | exact Items.b rfl | exact Items.ol2 rfl | exact Items.b2 rfl rfl); (· first | (unfold maxLen; omega) | (simp only [List.length_map, List.length_append, List.length_cons, List.length_nil, List.length_reverse]; unfold maxLen; omega) | decide))
  | ((with_reducible apply Ops_catT); (· first | exact Items.ol | exact Items.vl | exact Items.vt | exact Items.b rfl | exact Items.ol2 rfl | exact Items.b2 rfl rfl); (· first | exact Items.ol | exact Items.vl | exact Items.vt | exact Items.b rfl | exact Items.ol2 rfl | exact Items.b2 rfl rfl); (· first | (unfold maxLen; omega) | (simp only [List.length_map, List.length_append, List.length_cons, List.length_nil, List.length_reverse]; unfold maxLen; omega) | decide))
  | ((with_reducible apply Ops_list); (· first | exact Items.ol | exact Items.vl | exact Items.vt | exact Items.b rfl | exact Items.ol2 rfl | exact Items.b2 rfl rfl))
  | ((with_reducible apply Ops_ix); (· first | exact Items.ol | exact Items.vl | exact Items.vt | exact Items.b rfl | exact Items.ol2 rfl | exact Items.b2 rfl rfl); (· exact rfl))
  | ((with_reducible apply Ops_revL); (· first | exact Items.ol | exact Items.vl | exact Items.vt | exact Items.b rfl | exact Items.ol2 rfl | exact Items.b2 rfl rfl))
  | ((with_reducible apply Ops_revT); (· first | exact Items.ol | exact Items.vl | exact Items.vt | exact Items.b rfl | exact Items.ol2 rfl | exact Items.b2 rfl rfl))
  | with_reducible refine Ops_intI ?_
  | with_reducible refine Wp_par ?_
  | ((with_reducible apply par_oo); (· repeat (first | exact Upd.zL | exact Upd.zN | exact Upd.zA (by assumption) | apply Upd.s)); (· repeat (first | exact Upd.zL | exact Upd.zN | exact Upd.zA (by assumption) | apply Upd.s)))
  | with_reducible refine Wp_range3 ?_
  | ((with_reducible apply Ops_tuple); (· first | exact Items.ol | exact Items.vl | exact Items.vt | exact Items.b rfl | exact Items.ol2 rfl | exact Items.b2 rfl rfl))
  | ((with_reducible apply append_plain); (· exact rfl); (· first | (unfold maxLen; omega) | (simp only [List.length_map, List.length_append, List.length_cons, List.length_nil, List.length_reverse]; unfold maxLen; omega) | decide); (· repeat (first | exact Put.zL | exact Put.zP | apply Put.s)))
  | ((with_reducible apply Sl_scr))
  | ((with_reducible apply Sl_lst); (· first | exact Items.ol | exact Items.vl | exact Items.vt | exact Items.b rfl | exact Items.ol2 rfl | exact Items.b2 rfl rfl))
  | ((with_reducible apply Sl_tup); (· first | exact Items.ol | exact Items.vl | exact Items.vt | exact Items.b rfl | exact Items.ol2 rfl | exact Items.b2 rfl rfl))
  | ((with_reducible apply Sl_str); (· first | (unfold maxLen; omega) | (simp only [List.length_map, List.length_append, List.length_cons, List.length_nil, List.length_reverse]; unfold maxLen; omega) | decide))
  | ((with_reducible apply callQ_draw); (· exact rfl); (· first | omega | decide); (· first | omega | decide); intro _ _ _ _)
  | ((with_reducible apply bigI_and); (· first | omega | (simp only [List.length_map, List.length_append, List.length_cons, List.length_nil, List.length_reverse]; omega)); (· first | omega | (simp only [List.length_map, List.length_append, List.length_cons, List.length_nil, List.length_reverse]; omega)))
  | (refine ⟨_, (by repeat (first | exact Put.zL | exact Put.zP | apply Put.s) : Put _ _ _ _), ?_⟩)
  | with_reducible refine ⟨_, rfl, ?_⟩
  | with_reducible refine ⟨_, _, rfl, rfl, ?_⟩
  | with_reducible refine br_t ?_
  | with_reducible refine br_f ?_
  | (with_reducible refine br_dec ?_ ?_ <;> intro _)
  | (with_reducible refine br_ndec ?_ ?_ <;> intro _)
  | with_reducible refine br_not ?_
  | ((with_reducible apply br_tr); (· exact rfl))
  | ((with_reducible apply br_fl); (· exact rfl))
  | ((with_reducible refine br_b ?_ ?_) <;> intro _))
def dueB (ws : List (List Int)) (row : List Int) : Bool := ws.any fun w => decide (row.length < w.length) && decide (w.take row.length = row)
theorem wD_inj : ∀ a b : List Int, wD a = wD b → a = b := fun a b h => by
  have h3 := eqDs_ints a b
  simp only [wD, D.tup.injEq] at h
  rw [h] at h3
  have h4 := eqDs_ints b b
  rw [h4] at h3
  simpa using h3.symm
theorem due_fs (ws : List (List Int)) (hl : ws.length ≤ 1000) (hb : ∀ w ∈ ws, BW 4 w) (row : List Int) (hr : row.length ≤ 1000) {Q : O → List O → Prop} {X : Exc → List O → Prop} (h : Q (.val (.bl (dueB ws row))) [.val (.lst (ws.map wD)), .val (.lst (row.map .int))]) : FS sem_law_due [.val (.lst (ws.map wD)), .val (.lst (row.map .int))] Q X := by
  refine FS_fnI (by repeat constructor) ?_
  unfold code_law_due
  repeat' done
  refine Wp_forL0 (fun ds rs e => ∃ us c2 c3, LN c2 ∧ LN c3 ∧ ds = us.map wD ∧ dueB us row = false ∧ e = [.loc (.val (.lst (ws.map wD))), .loc (.val (.lst (row.map .int))), c2, c3]) (fun ds d rs e hd hI => ?_) (fun e hI => ?_) ⟨[], .no, .no, (by exact True.intro), (by exact True.intro), rfl, rfl, rfl⟩
  · obtain ⟨us, c2, c3, h2, h3, rfl, hu, rfl⟩ := hI
    obtain ⟨ys, zs, e1, e2, e3⟩ := List.map_eq_append_iff.mp hd
    obtain ⟨w, zs', rfl, rfl, e4⟩ := List.map_eq_cons_iff.mp e3
    have hw := hb w (by rw [e1]; simp)
    refine ⟨_, .name (by repeat (first | exact Upd.zA h2 | apply Upd.s)), ?_⟩
    unfold code_law_due_b1
    repeat' done
    · rename_i hgt
      rw [List.length_map] at hgt
      have hlt : row.length < w.length := by omega
      rw [List.length_map]
      refine compQ_map (fun d => match d with | .int k => .bl (decide (w.getD k.toNat 0 = row.getD k.toNat 0)) | d => d) (.c .n (by repeat (first | exact Upd.zA h3 | apply Upd.s))) (.c rfl .n (by repeat (first | exact Upd.zN | apply Upd.s))) ?_ (fun d hd => ?_) ?_
      · rw [rangeD_len]; unfold maxLen; omega
      · obtain ⟨k, hk, rfl⟩ := List.mem_map.mp hd
        have hk2 := List.mem_range.mp hk
        refine ⟨_, .name (by repeat (first | exact Upd.zL | exact Upd.zN | exact Upd.zA (by assumption) | apply Upd.s)), ?_⟩
        unfold wD
        repeat' done
        refine Ops_ixR .vt (by omega) (by omega) fun x hx _ => ?_
        repeat' done
        refine Ops_ixR .vl (by omega) (by omega) fun y hy _ => ?_
        repeat' done
        refine ⟨?_, .c .n (by repeat (first | exact Upd.zL | exact Upd.zN | exact Upd.zA (by assumption) | apply Upd.s))⟩
        simp only [List.getD_eq_getElem?_getD, hx, hy, Option.getD_some]
      repeat' done
      have e5 : (rangeD 0 (row.length : Int)).map (fun d => match d with | D.int k => D.bl (decide (w.getD k.toNat 0 = row.getD k.toNat 0)) | d => d) = (List.range row.length).map fun k => D.bl (decide (w.getD k 0 = row.getD k 0)) := by
        unfold rangeD
        rw [List.map_map, show ((row.length : Int) - 0).toNat = row.length by omega]
        refine List.map_congr_left fun k _ => ?_
        simp only [Function.comp]
        rw [show ((0 : Int) + (k : Nat)).toNat = k by omega]
      rw [e5]
      refine Ops_all (fun k : Nat => decide (w.getD k 0 = row.getD k 0)) (xs := List.range row.length) rfl ?_
      have e6 : ((List.range row.length).all fun k => decide (w.getD k 0 = row.getD k 0)) = decide (w.take row.length = row) := by
        rw [Bool.eq_iff_iff, List.all_eq_true, decide_eq_true_eq]
        refine ⟨fun hh => List.ext_getElem (by rw [List.length_take]; omega) fun k h1 h2 => ?_, fun hh k hk => ?_⟩
        · have := hh k (List.mem_range.mpr h2)
          rw [decide_eq_true_eq, List.getD_eq_getElem?_getD, List.getD_eq_getElem?_getD, List.getElem?_eq_getElem (by omega), List.getElem?_eq_getElem h2] at this
          rw [List.getElem_take]
          simpa using this
        · have hk2 := List.mem_range.mp hk
          have := congrArg (fun l : List Int => l[k]?) hh
          simp only [List.getElem?_take, hk2, if_true] at this
          rw [decide_eq_true_eq, List.getD_eq_getElem?_getD, List.getD_eq_getElem?_getD, this]
      rw [e6]
      repeat' done
      · rename_i ht
        have : dueB ws row = true := by
          unfold dueB
          refine List.any_eq_true.mpr ⟨w, by rw [e1]; simp, ?_⟩
          rw [decide_eq_true hlt, decide_eq_true ht]; rfl
        rw [this] at h
        exact h
      · rename_i hf
        refine ⟨ys ++ [w], _, _, (by exact True.intro), h3, by rw [List.map_append, ← e2]; rfl, ?_, rfl⟩
        unfold dueB at hu ⊢
        have eq : ys = us := (List.map_inj_right wD_inj).mp e2
        rw [List.any_append, eq, hu, List.any_cons, List.any_nil, decide_eq_false hf]
        simp
    · rename_i hgt
      rw [List.length_map] at hgt
      refine ⟨ys ++ [w], _, _, (by exact True.intro), h3, by rw [List.map_append, ← e2]; rfl, ?_, rfl⟩
      unfold dueB at hu ⊢
      have eq : ys = us := (List.map_inj_right wD_inj).mp e2
      rw [List.any_append, eq, hu, List.any_cons, List.any_nil, decide_eq_false (by omega)]
      rfl
  · obtain ⟨us, c2, c3, h2, h3, hq, hu, rfl⟩ := hI
    have : us = ws := (List.map_inj_right wD_inj).mp hq.symm
    subst this
    refine seq_nx ?_
    unfold code_law_due_r1
    repeat' done
    rw [hu] at h
    exact h
end VS.K16
namespace VS.K16
open VS
local macro_rules | `(tactic| done) => `(tactic| first
  | with_reducible refine Wp_seq ?_
  | with_reducible refine seq_nx ?_
  | with_reducible refine seq_ret ?_
  | with_reducible refine seq_brk ?_
  | with_reducible refine seq_cnt ?_
  | with_reducible refine Wp_asg ?_
  | ((with_reducible apply Wp_app); (· exact rfl))
  | with_reducible refine Wp_setIx ?_
  | ((with_reducible apply isLst_and); (· exact rfl))
  | ((with_reducible apply asg_o); (· repeat (first | exact Upd.zL | exact Upd.zN | exact Upd.zA (by assumption) | apply Upd.s)))
  | ((with_reducible apply asg_b); (· exact rfl); (· repeat (first | exact Upd.zL | exact Upd.zN | exact Upd.zA (by assumption) | apply Upd.s)); (· repeat (first | exact Upd.zL | exact Upd.zN | exact Upd.zA (by assumption) | apply Upd.s)))
  | with_reducible refine Wp_op ?_
  | with_reducible refine Wp_cons ?_
  | with_reducible refine Wp_nil ?_
  | with_reducible refine Wp_call ?_
  | ((with_reducible apply Wp_var); (· exact rfl))
  | ((with_reducible apply Wp_varB); (· exact rfl); (· exact rfl))
  | with_reducible refine Wp_c ?_
  | with_reducible refine Wp_dict0 ?_
  | ((with_reducible apply Wp_pure); (· exact rfl))
  | with_reducible refine Wp_sret ?_
  | with_reducible refine ret_o ?_
  | ((with_reducible apply ret_b); (· exact rfl); (· repeat (first | exact Upd.zL | exact Upd.zN | exact Upd.zA (by assumption) | apply Upd.s)))
  | with_reducible refine Wp_sretN ?_
  | with_reducible refine Wp_if ?_
  | with_reducible refine Wp_next ?_
  | with_reducible refine Wp_brk ?_
  | with_reducible refine Wp_cnt ?_
  | with_reducible refine Wp_drop ?_
  | with_reducible refine Wp_test ?_
  | with_reducible refine Wp_and ?_
  | with_reducible refine Wp_or ?_
  | with_reducible refine Wp_not ?_
  | with_reducible refine Wp_notV ?_
  | with_reducible refine Wp_andV ?_
  | with_reducible refine Wp_orV ?_
  | with_reducible refine Wp_ifE ?_
  | with_reducible refine Wp_yes ?_
  | with_reducible refine Wp_chain ?_
  | with_reducible refine Wp_for ?_
  | with_reducible refine Wp_slice ?_
  | with_reducible refine Wp_noPart ?_
  | with_reducible refine Wp_part ?_
  | with_reducible refine Wp_compI ?_
  | with_reducible refine Wp_range1 ?_
  | with_reducible refine Wp_range2 ?_
  | with_reducible refine Wp_anyI ?_
  | with_reducible refine any_vL ?_
  | with_reducible refine any_vT ?_
  | with_reducible refine any_oL ?_
  | with_reducible refine any_vS ?_
  | ((with_reducible apply any_bL); (· exact rfl); (· repeat (first | exact Upd.zL | exact Upd.zN | exact Upd.zA (by assumption) | apply Upd.s)))
  | with_reducible refine for_nx ?_
  | with_reducible refine for_cnt ?_
  | with_reducible refine for_brk ?_
  | with_reducible refine for_ret ?_
  | ((with_reducible apply fn_ret); (· repeat (first | exact Outs.n | apply Outs.t | apply Outs.f)))
  | ((with_reducible apply fn_nx); (· repeat (first | exact Outs.n | apply Outs.t | apply Outs.f)))
  | with_reducible refine Wp_meth ?_
  | with_reducible refine Wp_make ?_
  | ((with_reducible apply isIns_and); (· exact rfl))
  | ((with_reducible apply Ops_fld); (· exact rfl))
  | with_reducible refine Ops_add ?_
  | with_reducible refine Ops_sub ?_
  | ((with_reducible apply Ops_mul); (· first | exact .inl (by decide) | exact .inr (by decide) | with_reducible exact .inl (small_fmod (by decide) (by decide)) | with_reducible exact .inr (small_fmod (by decide) (by decide)) | exact .inl (small_of (by omega) (by omega)) | exact .inr (small_of (by omega) (by omega))))
  | ((with_reducible apply Ops_div); (· first | omega | decide); (· first | omega | decide))
  | ((with_reducible apply Ops_mod); (· first | omega | decide))
  | ((with_reducible apply Ops_powL); (· decide); (· simp only [Int.reduceToNat, Int.reducePow]; exact rfl))
  | with_reducible refine Ops_neg ?_
  | with_reducible refine Ops_abs ?_
  | with_reducible refine Ops_max2 ?_
  | with_reducible refine Ops_min2 ?_
  | with_reducible refine Ops_inS ?_
  | with_reducible refine Ops_lt ?_
  | with_reducible refine Ops_le ?_
  | with_reducible refine Ops_gt ?_
  | with_reducible refine Ops_ge ?_
  | with_reducible refine Ops_eqI ?_
  | with_reducible refine Ops_neI ?_
  | ((with_reducible apply Ops_lenT))
  | with_reducible refine Ops_lenW ?_
  | ((with_reducible apply Ops_lenN))
  | ((with_reducible apply Ops_len); (· first | exact RD.v | exact RD.ol | exact RD.b rfl | exact RD.any rfl))
  | ((with_reducible apply Ops_lenS); (· first | (unfold maxLen; omega) | (simp only [List.length_map, List.length_append, List.length_cons, List.length_nil, List.length_reverse]; unfold maxLen; omega) | decide))
  | ((with_reducible apply Ops_addS); (· first | (unfold maxLen; omega) | (simp only [List.length_map, List.length_append, List.length_cons, List.length_nil, List.length_reverse]; unfold maxLen; omega) | decide))
  | ((with_reducible apply Ops_lstV); (· repeat (first | exact RVals.n | apply RVals.c)); (· exact Nat.le_of_ble_eq_true rfl))
  | ((with_reducible apply Ops_tupV); (· repeat (first | exact RVals.n | apply RVals.c)); (· exact Nat.le_of_ble_eq_true rfl))
  | ((with_reducible apply Ops_lst); (· repeat (first | exact Settles.n | apply Settles.c Settle.o)); (· exact Nat.le_of_ble_eq_true rfl))
  | ((with_reducible apply Ops_tup); (· repeat (first | exact Settles.n | apply Settles.c Settle.o)); (· exact Nat.le_of_ble_eq_true rfl))
  | ((with_reducible apply Ops_isT); (· exact rfl); (· exact rfl))
  | ((with_reducible apply Ops_eqD); (· first | exact RD.v | exact RD.ol | exact RD.b rfl | exact RD.any rfl); (· first | exact RD.v | exact RD.ol | exact RD.b rfl | exact RD.any rfl); (· first | exact okE_ints _ | exact okE_words _ | exact okE_pairs _ | exact okE_tints _ | exact okE_w _ | exact okE_cutT _ _ _ | exact okE_cutL _ _ _ | rfl | assumption); (· first | exact okE_ints _ | exact okE_words _ | exact okE_pairs _ | exact okE_tints _ | exact okE_w _ | exact okE_cutT _ _ _ | exact okE_cutL _ _ _ | rfl | assumption))
  | ((with_reducible apply Ops_neD); (· first | exact RD.v | exact RD.ol | exact RD.b rfl | exact RD.any rfl); (· first | exact RD.v | exact RD.ol | exact RD.b rfl | exact RD.any rfl); (· first | exact okE_ints _ | exact okE_words _ | exact okE_pairs _ | exact okE_tints _ | exact okE_w _ | exact okE_cutT _ _ _ | exact okE_cutL _ _ _ | rfl | assumption); (· first | exact okE_ints _ | exact okE_words _ | exact okE_pairs _ | exact okE_tints _ | exact okE_w _ | exact okE_cutT _ _ _ | exact okE_cutL _ _ _ | rfl | assumption))
  | ((with_reducible apply Ops_isN); (· exact rfl))
  | ((with_reducible apply Ops_isNotN); (· exact rfl))
  | ((with_reducible apply Ops_cat); (· first | exact Items.ol | exact Items.vl | exact Items.vt | exact Items.b rfl | exact Items.ol2 rfl | exact Items.b2 rfl rfl); (· first | exact Items.ol | exact Items.vl | exact Items.vt | exact Items.b rfl | exact Items.ol2 rfl | exact Items.b2 rfl rfl); (· first | (unfold maxLen; omega) | (simp only [List.length_map, List.length_append, List.length_cons, List.length_nil, List.length_reverse]; unfold maxLen; omega) | decide))
  | ((with_reducible apply Ops_catT); (· first | exact Items.ol | exact Items.vl | exact Items.vt | exact Items.b rfl | exact Items.ol2 rfl | exact Items.b2 rfl rfl); (· first | exact Items.ol | exact Items.vl | exact Items.vt | exact Items.b rfl | exact Items.ol2 rfl | exact Items.b2 rfl rfl); (· first | (unfold maxLen; omega) | (simp only [List.length_map, List.length_append, List.length_cons, List.length_nil, List.length_reverse]; unfold maxLen; omega) | decide))
  | ((with_reducible apply Ops_list); (· first | exact Items.ol | exact Items.vl | exact Items.vt | exact Items.b rfl | exact Items.ol2 rfl | exact Items.b2 rfl rfl))
  | ((with_reducible apply Ops_ix); (· first | exact Items.ol | exact Items.vl | exact Items.vt | exact Items.b rfl | exact Items.ol2 rfl | exact Items.b2 rfl rfl); (· exact rfl))
  | ((with_reducible apply Ops_revL); (· first | exact Items.ol | exact Items.vl | exact Items.vt | exact Items.b rfl | exact Items.ol2 rfl | exact Items.b2 rfl rfl))
  | ((with_reducible apply Ops_revT); (· first | exact Items.ol | exact Items.vl | exact Items.vt | exact Items.b rfl | exact Items.ol2 rfl | exact Items.b2 rfl rfl))
  | with_reducible refine Ops_intI ?_
  | with_reducible refine Wp_par ?_
  | ((with_reducible apply par_oo); (· repeat (first | exact Upd.zL | exact Upd.zN | exact Upd.zA (by assumption) | apply Upd.s)); (· repeat (first | exact Upd.zL | exact Upd.zN | exact Upd.zA (by assumption) | apply Upd.s)))
  | with_reducible refine Wp_range3 ?_
  | ((with_reducible apply Ops_tuple); (· first | exact Items.ol | exact Items.vl | exact Items.vt | exact Items.b rfl | exact Items.ol2 rfl | exact Items.b2 rfl rfl))
  | ((with_reducible apply append_plain); (· exact rfl); (· first | (unfold maxLen; omega) | (simp only [List.length_map, List.length_append, List.length_cons, List.length_nil, List.length_reverse]; unfold maxLen; omega) | decide); (· repeat (first | exact Put.zL | exact Put.zP | apply Put.s)))
  | ((with_reducible apply Sl_scr))
  | ((with_reducible apply Sl_lst); (· first | exact Items.ol | exact Items.vl | exact Items.vt | exact Items.b rfl | exact Items.ol2 rfl | exact Items.b2 rfl rfl))
  | ((with_reducible apply Sl_tup); (· first | exact Items.ol | exact Items.vl | exact Items.vt | exact Items.b rfl | exact Items.ol2 rfl | exact Items.b2 rfl rfl))
  | ((with_reducible apply Sl_str); (· first | (unfold maxLen; omega) | (simp only [List.length_map, List.length_append, List.length_cons, List.length_nil, List.length_reverse]; unfold maxLen; omega) | decide))
  | ((with_reducible apply callQ_draw); (· exact rfl); (· first | omega | decide); (· first | omega | decide); intro _ _ _ _)
  | ((with_reducible apply bigI_and); (· first | omega | (simp only [List.length_map, List.length_append, List.length_cons, List.length_nil, List.length_reverse]; omega)); (· first | omega | (simp only [List.length_map, List.length_append, List.length_cons, List.length_nil, List.length_reverse]; omega)))
  | (refine ⟨_, (by repeat (first | exact Put.zL | exact Put.zP | apply Put.s) : Put _ _ _ _), ?_⟩)
  | with_reducible refine ⟨_, rfl, ?_⟩
  | with_reducible refine ⟨_, _, rfl, rfl, ?_⟩
  | with_reducible refine br_t ?_
  | with_reducible refine br_f ?_
  | (with_reducible refine br_dec ?_ ?_ <;> intro _)
  | (with_reducible refine br_ndec ?_ ?_ <;> intro _)
  | with_reducible refine br_not ?_
  | ((with_reducible apply br_tr); (· exact rfl))
  | ((with_reducible apply br_fl); (· exact rfl))
  | ((with_reducible refine br_b ?_ ?_) <;> intro _))
theorem some_fs (h : Hand) {Q : O → List O → Prop} {X : Exc → List O → Prop} (q : ∀ (bs : List Int) (h' : Hand), 2 ≤ bs.length → bs.length ≤ 18 → ByteList bs → Q (oLst (bs.map .int)) [h'.o]) : FS sem_law_some [h.o] Q X := by
  refine FS_fnI (by repeat constructor) ?_
  unfold code_law_some
  repeat' done
  refine callQ_bytes rfl (by decide) (by decide) fun bs h1 b2 b3 bl => ⟨_, (by repeat (first | exact Put.zL | exact Put.zP | apply Put.s)), ?_⟩
  repeat' done
  · rename_i r1 g1 hr0 hr1 hz n g2 hn0 hn1
    obtain ⟨a, t, rfl⟩ := List.exists_cons_of_ne_nil (show bs ≠ [] by intro e; subst e; simp at b2)
    refine compQ_map (fun d => match d with | .int k => .int ((a + 13 * k).fmod 256) | d => d) (.c .n (by repeat (first | exact Upd.zL | exact Upd.zN | exact Upd.zA (by assumption) | apply Upd.s))) (.c rfl .n (by repeat (first | exact Upd.zL | exact Upd.zN | exact Upd.zA (by assumption) | apply Upd.s))) ?_ (fun d hd => ?_) ?_
    · rw [rangeD_len]; unfold maxLen; omega
    · obtain ⟨k, _, rfl⟩ := List.mem_map.mp hd
      refine ⟨_, .name (by repeat (first | exact Upd.zL | exact Upd.zN | exact Upd.zA (by assumption) | apply Upd.s)), ?_⟩
      repeat' done
      refine Ops_ixR (.b rfl) (by omega) (by simp) fun x hx _ => ?_
      obtain rfl : a = x := by simpa using hx
      repeat' done
      exact ⟨rfl, .c .n (by repeat (first | exact Upd.zL | exact Upd.zN | exact Upd.zA (by assumption) | apply Upd.s))⟩
    repeat' done
    unfold code_law_some_r1
    obtain ⟨N, hN⟩ : ∃ N : Nat, (5 + n : Int) = N := ⟨(5 + n).toNat, by omega⟩
    have e : (rangeD 0 (5 + n)).map (fun d => match d with | D.int k => D.int ((a + 13 * k).fmod 256) | d => d) = ((List.range N).map fun k : Nat => (a + 13 * (k : Int)).fmod 256).map D.int := by
      rw [hN]
      unfold rangeD
      simp only [Int.sub_zero, Int.toNat_natCast, List.map_map]
      apply List.map_congr_left
      intro k _
      simp
    rw [e]
    repeat' done
    refine q _ _ (by simp; omega) (by simp; omega) ⟨?_, fun b hb => ?_⟩
    · rw [List.nodup_iff_pairwise_ne, List.pairwise_map]
      refine List.Pairwise.imp_of_mem ?_ List.pairwise_lt_range
      intro x y hx hy hxy e
      have hx := List.mem_range.mp hx
      have hy := List.mem_range.mp hy
      rw [Int.fmod_eq_emod_of_nonneg _ (by decide), Int.fmod_eq_emod_of_nonneg _ (by decide)] at e
      omega
    · obtain ⟨k, _, rfl⟩ := List.mem_map.mp hb
      exact ⟨Int.fmod_nonneg_of_pos _ (by decide), Int.fmod_lt_of_pos _ (by decide)⟩
  · unfold code_law_some_r1
    repeat' done
    exact q _ _ b2 (by omega) bl
theorem wordsOk_mono {bs : List Int} {M N : Int} {ws : List (List Int)} (h : WordsOk bs M ws) (hm : M ≤ N) : WordsOk bs N ws := ⟨h.ne, fun w hw => by have := h.le w hw; omega, h.by_⟩
theorem leaves_fs (h : Hand) (bs : List Int) (hb2 : 2 ≤ bs.length) (hb : bs.length ≤ 18) (hbl : ByteList bs) {Q : O → List O → Prop} {X : Exc → List O → Prop} (q : ∀ (ws : List (List Int)) (h' : Hand), WordsOk bs 4 ws → ws.Pairwise PFree → ws.length ≤ 24 → Q (oLst (ws.map wD)) [h'.o, .val (.lst (bs.map .int))]) : FS sem_law_leaves [h.o, .val (.lst (bs.map .int))] Q X := by
  refine FS_fnI (by repeat constructor) ?_
  unfold code_law_leaves
  have hne : bs ≠ [] := by intro e; subst e; simp at hb2
  repeat' done
  · refine callQ_mk (Args.t rfl (Args.fv (Args.fv (Args.fv Args.n)))) (by simp [okSlots, mutSlots, borSlots]) rfl (words_fs h bs hbl.1 hne (by omega) 1 2 (by omega) (by omega) (by omega) (by omega) fun ws h' hw hp hl => ?_)
    refine ⟨_, Puts.t (by repeat (first | exact Put.zL | exact Put.zP | apply Put.s)) (Puts.f (Puts.f (Puts.f Puts.n))), ?_⟩
    repeat' done
    rw [cutD_map, cutD_take _ (by decide)]
    exact q _ h' ((wordsOk_mono hw (by decide)).sub fun w h => List.mem_of_mem_take h) (hp.sublist (List.take_sublist _ _)) (by rw [List.length_take]; omega)
  · rename_i hle
    rw [List.length_map] at hle
    unfold code_law_leaves_r1
    repeat' done
    refine callQ_mk (Args.t rfl (Args.fv (Args.fv (Args.fv Args.n)))) (by simp [okSlots, mutSlots, borSlots]) rfl (words_fs h bs hbl.1 hne (by omega) 6 4 (by omega) (by omega) (by omega) (by omega) fun ws h' hw hp hl => ?_)
    refine ⟨_, Puts.t (by repeat (first | exact Put.zL | exact Put.zP | apply Put.s)) (Puts.f (Puts.f (Puts.f Puts.n))), ?_⟩
    repeat' done
    exact q ws h' hw hp (by omega)
end VS.K16
namespace VS.K16
open VS
local macro_rules | `(tactic| done) => `(tactic| first
  | with_reducible refine Wp_seq ?_
  | with_reducible refine seq_nx ?_
  | with_reducible refine seq_ret ?_
  | with_reducible refine seq_brk ?_
  | with_reducible refine seq_cnt ?_
  | with_reducible refine Wp_asg ?_
  | ((with_reducible apply Wp_app); (· exact rfl))
  | with_reducible refine Wp_setIx ?_
  | ((with_reducible apply isLst_and); (· exact rfl))
  | ((with_reducible apply asg_o); (· repeat (first | exact Upd.zL | exact Upd.zN | exact Upd.zA (by assumption) | apply Upd.s)))
  | ((with_reducible apply asg_b); (· exact rfl); (· repeat (first | exact Upd.zL | exact Upd.zN | exact Upd.zA (by assumption) | apply Upd.s)); (· repeat (first | exact Upd.zL | exact Upd.zN | exact Upd.zA (by assumption) | apply Upd.s)))
  | with_reducible refine Wp_op ?_
  | with_reducible refine Wp_cons ?_
  | with_reducible refine Wp_nil ?_
  | with_reducible refine Wp_call ?_
  | ((with_reducible apply Wp_var); (· exact rfl))
  | ((with_reducible apply Wp_varB); (· exact rfl); (· exact rfl))
  | with_reducible refine Wp_c ?_
  | with_reducible refine Wp_dict0 ?_
  | ((with_reducible apply Wp_pure); (· exact rfl))
  | with_reducible refine Wp_sret ?_
  | with_reducible refine ret_o ?_
  | ((with_reducible apply ret_b); (· exact rfl); (· repeat (first | exact Upd.zL | exact Upd.zN | exact Upd.zA (by assumption) | apply Upd.s)))
  | with_reducible refine Wp_sretN ?_
  | with_reducible refine Wp_if ?_
  | with_reducible refine Wp_next ?_
  | with_reducible refine Wp_brk ?_
  | with_reducible refine Wp_cnt ?_
  | with_reducible refine Wp_drop ?_
  | with_reducible refine Wp_test ?_
  | with_reducible refine Wp_and ?_
  | with_reducible refine Wp_or ?_
  | with_reducible refine Wp_not ?_
  | with_reducible refine Wp_notV ?_
  | with_reducible refine Wp_andV ?_
  | with_reducible refine Wp_orV ?_
  | with_reducible refine Wp_ifE ?_
  | with_reducible refine Wp_yes ?_
  | with_reducible refine Wp_chain ?_
  | with_reducible refine Wp_for ?_
  | with_reducible refine Wp_slice ?_
  | with_reducible refine Wp_noPart ?_
  | with_reducible refine Wp_part ?_
  | with_reducible refine Wp_compI ?_
  | with_reducible refine Wp_range1 ?_
  | with_reducible refine Wp_range2 ?_
  | with_reducible refine Wp_anyI ?_
  | with_reducible refine any_vL ?_
  | with_reducible refine any_vT ?_
  | with_reducible refine any_oL ?_
  | with_reducible refine any_vS ?_
  | ((with_reducible apply any_bL); (· exact rfl); (· repeat (first | exact Upd.zL | exact Upd.zN | exact Upd.zA (by assumption) | apply Upd.s)))
  | with_reducible refine for_nx ?_
  | with_reducible refine for_cnt ?_
  | with_reducible refine for_brk ?_
  | with_reducible refine for_ret ?_
  | ((with_reducible apply fn_ret); (· repeat (first | exact Outs.n | apply Outs.t | apply Outs.f)))
  | ((with_reducible apply fn_nx); (· repeat (first | exact Outs.n | apply Outs.t | apply Outs.f)))
  | with_reducible refine Wp_meth ?_
  | with_reducible refine Wp_make ?_
  | ((with_reducible apply isIns_and); (· exact rfl))
  | ((with_reducible apply Ops_fld); (· exact rfl))
  | with_reducible refine Ops_add ?_
  | with_reducible refine Ops_sub ?_
  | ((with_reducible apply Ops_mul); (· first | exact .inl (by decide) | exact .inr (by decide) | with_reducible exact .inl (small_fmod (by decide) (by decide)) | with_reducible exact .inr (small_fmod (by decide) (by decide)) | exact .inl (small_of (by omega) (by omega)) | exact .inr (small_of (by omega) (by omega))))
  | ((with_reducible apply Ops_div); (· first | omega | decide); (· first | omega | decide))
  | ((with_reducible apply Ops_mod); (· first | omega | decide))
  | ((with_reducible apply Ops_powL); (· decide); (· simp only [Int.reduceToNat, Int.reducePow]; exact rfl))
  | with_reducible refine Ops_neg ?_
  | with_reducible refine Ops_abs ?_
  | with_reducible refine Ops_max2 ?_
  | with_reducible refine Ops_min2 ?_
  | with_reducible refine Ops_inS ?_
  | with_reducible refine Ops_lt ?_
  | with_reducible refine Ops_le ?_
  | with_reducible refine Ops_gt ?_
  | with_reducible refine Ops_ge ?_
  | with_reducible refine Ops_eqI ?_
  | with_reducible refine Ops_neI ?_
  | ((with_reducible apply Ops_lenT))
  | with_reducible refine Ops_lenW ?_
  | ((with_reducible apply Ops_lenN))
  | ((with_reducible apply Ops_len); (· first | exact RD.v | exact RD.ol | exact RD.b rfl | exact RD.any rfl))
  | ((with_reducible apply Ops_lenS); (· first | (unfold maxLen; omega) | (simp only [List.length_map, List.length_append, List.length_cons, List.length_nil, List.length_reverse]; unfold maxLen; omega) | decide))
  | ((with_reducible apply Ops_addS); (· first | (unfold maxLen; omega) | (simp only [List.length_map, List.length_append, List.length_cons, List.length_nil, List.length_reverse]; unfold maxLen; omega) | decide))
  | ((with_reducible apply Ops_lstV); (· repeat (first | exact RVals.n | apply RVals.c)); (· exact Nat.le_of_ble_eq_true rfl))
  | ((with_reducible apply Ops_tupV); (· repeat (first | exact RVals.n | apply RVals.c)); (· exact Nat.le_of_ble_eq_true rfl))
  | ((with_reducible apply Ops_lst); (· repeat (first | exact Settles.n | apply Settles.c Settle.o)); (· exact Nat.le_of_ble_eq_true rfl))
  | ((with_reducible apply Ops_tup); (· repeat (first | exact Settles.n | apply Settles.c Settle.o)); (· exact Nat.le_of_ble_eq_true rfl))
  | ((with_reducible apply Ops_isT); (· exact rfl); (· exact rfl))
  | ((with_reducible apply Ops_eqD); (· first | exact RD.v | exact RD.ol | exact RD.b rfl | exact RD.any rfl); (· first | exact RD.v | exact RD.ol | exact RD.b rfl | exact RD.any rfl); (· first | exact okE_ints _ | exact okE_words _ | exact okE_pairs _ | exact okE_tints _ | exact okE_w _ | exact okE_cutT _ _ _ | exact okE_cutL _ _ _ | rfl | assumption); (· first | exact okE_ints _ | exact okE_words _ | exact okE_pairs _ | exact okE_tints _ | exact okE_w _ | exact okE_cutT _ _ _ | exact okE_cutL _ _ _ | rfl | assumption))
  | ((with_reducible apply Ops_neD); (· first | exact RD.v | exact RD.ol | exact RD.b rfl | exact RD.any rfl); (· first | exact RD.v | exact RD.ol | exact RD.b rfl | exact RD.any rfl); (· first | exact okE_ints _ | exact okE_words _ | exact okE_pairs _ | exact okE_tints _ | exact okE_w _ | exact okE_cutT _ _ _ | exact okE_cutL _ _ _ | rfl | assumption); (· first | exact okE_ints _ | exact okE_words _ | exact okE_pairs _ | exact okE_tints _ | exact okE_w _ | exact okE_cutT _ _ _ | exact okE_cutL _ _ _ | rfl | assumption))
  | ((with_reducible apply Ops_isN); (· exact rfl))
  | ((with_reducible apply Ops_isNotN); (· exact rfl))
  | ((with_reducible apply Ops_cat); (· first | exact Items.ol | exact Items.vl | exact Items.vt | exact Items.b rfl | exact Items.ol2 rfl | exact Items.b2 rfl rfl); (· first | exact Items.ol | exact Items.vl | exact Items.vt | exact Items.b rfl | exact Items.ol2 rfl | exact Items.b2 rfl rfl); (· first | (unfold maxLen; omega) | (simp only [List.length_map, List.length_append, List.length_cons, List.length_nil, List.length_reverse]; unfold maxLen; omega) | decide))
  | ((with_reducible apply Ops_catT); (· first | exact Items.ol | exact Items.vl | exact Items.vt | exact Items.b rfl | exact Items.ol2 rfl | exact Items.b2 rfl rfl); (· first | exact Items.ol | exact Items.vl | exact Items.vt | exact Items.b rfl | exact Items.ol2 rfl | exact Items.b2 rfl rfl); (· first | (unfold maxLen; omega) | (simp only [List.length_map, List.length_append, List.length_cons, List.length_nil, List.length_reverse]; unfold maxLen; omega) | decide))
  | ((with_reducible apply Ops_list); (· first | exact Items.ol | exact Items.vl | exact Items.vt | exact Items.b rfl | exact Items.ol2 rfl | exact Items.b2 rfl rfl))
  | ((with_reducible apply Ops_ix); (· first | exact Items.ol | exact Items.vl | exact Items.vt | exact Items.b rfl | exact Items.ol2 rfl | exact Items.b2 rfl rfl); (· exact rfl))
  | ((with_reducible apply Ops_revL); (· first | exact Items.ol | exact Items.vl | exact Items.vt | exact Items.b rfl | exact Items.ol2 rfl | exact Items.b2 rfl rfl))
  | ((with_reducible apply Ops_revT); (· first | exact Items.ol | exact Items.vl | exact Items.vt | exact Items.b rfl | exact Items.ol2 rfl | exact Items.b2 rfl rfl))
  | with_reducible refine Ops_intI ?_
  | with_reducible refine Wp_par ?_
  | ((with_reducible apply par_oo); (· repeat (first | exact Upd.zL | exact Upd.zN | exact Upd.zA (by assumption) | apply Upd.s)); (· repeat (first | exact Upd.zL | exact Upd.zN | exact Upd.zA (by assumption) | apply Upd.s)))
  | with_reducible refine Wp_range3 ?_
  | ((with_reducible apply Ops_tuple); (· first | exact Items.ol | exact Items.vl | exact Items.vt | exact Items.b rfl | exact Items.ol2 rfl | exact Items.b2 rfl rfl))
  | ((with_reducible apply append_plain); (· exact rfl); (· first | (unfold maxLen; omega) | (simp only [List.length_map, List.length_append, List.length_cons, List.length_nil, List.length_reverse]; unfold maxLen; omega) | decide); (· repeat (first | exact Put.zL | exact Put.zP | apply Put.s)))
  | ((with_reducible apply Sl_scr))
  | ((with_reducible apply Sl_lst); (· first | exact Items.ol | exact Items.vl | exact Items.vt | exact Items.b rfl | exact Items.ol2 rfl | exact Items.b2 rfl rfl))
  | ((with_reducible apply Sl_tup); (· first | exact Items.ol | exact Items.vl | exact Items.vt | exact Items.b rfl | exact Items.ol2 rfl | exact Items.b2 rfl rfl))
  | ((with_reducible apply Sl_str); (· first | (unfold maxLen; omega) | (simp only [List.length_map, List.length_append, List.length_cons, List.length_nil, List.length_reverse]; unfold maxLen; omega) | decide))
  | ((with_reducible apply callQ_draw); (· exact rfl); (· first | omega | decide); (· first | omega | decide); intro _ _ _ _)
  | ((with_reducible apply bigI_and); (· first | omega | (simp only [List.length_map, List.length_append, List.length_cons, List.length_nil, List.length_reverse]; omega)); (· first | omega | (simp only [List.length_map, List.length_append, List.length_cons, List.length_nil, List.length_reverse]; omega)))
  | (refine ⟨_, (by repeat (first | exact Put.zL | exact Put.zP | apply Put.s) : Put _ _ _ _), ?_⟩)
  | with_reducible refine ⟨_, rfl, ?_⟩
  | with_reducible refine ⟨_, _, rfl, rfl, ?_⟩
  | with_reducible refine br_t ?_
  | with_reducible refine br_f ?_
  | (with_reducible refine br_dec ?_ ?_ <;> intro _)
  | (with_reducible refine br_ndec ?_ ?_ <;> intro _)
  | with_reducible refine br_not ?_
  | ((with_reducible apply br_tr); (· exact rfl))
  | ((with_reducible apply br_fl); (· exact rfl))
  | ((with_reducible refine br_b ?_ ?_) <;> intro _))
theorem table_fs (h : Hand) (ws : List (List Int)) (ss : List Int) (hw : ∀ w ∈ ws, BW 4 w) (hp : ws.Pairwise PFree) (hs : ss.Nodup) (hl : ws.length ≤ ss.length) (hl2 : ss.length ≤ 1000) {Q : O → List O → Prop} {X : Exc → List O → Prop} (q : ∀ (ps : List (Int × List Int)) (h' : Hand), Good ps → (ps.map (·.2)).Perm ws → Q (oLst (ps.map pD)) [h'.o, .val (.lst (ws.map wD)), .val (.lst (ss.map .int))]) : FS sem_law_table [h.o, .val (.lst (ws.map wD)), .val (.lst (ss.map .int))] Q X := by
  refine FS_fnI (by repeat constructor) ?_
  unfold code_law_table
  repeat' done
  rename_i r h5 hr0 hr1
  have a0 := Int.fmod_nonneg_of_pos r (show (0 : Int) < (if ((ss.map D.int).length : Int) > 1 then ((ss.map D.int).length : Int) else 1) by split <;> omega)
  generalize r.fmod (if ((ss.map D.int).length : Int) > 1 then ((ss.map D.int).length : Int) else 1) = at_ at *
  have l1 := cutD_len (ss.map D.int) (some at_) none
  have l2 := cutD_len (ss.map D.int) none (some at_)
  rw [List.length_map] at l1 l2
  refine Ops_cat .ol .ol ?_ ?_
  · unfold maxLen; omega
  rw [cutD_map, cutD_map, ← List.map_append, cutD_take _ a0, cutD_drop _ a0]
  have pm : List.Perm (ss.drop at_.toNat ++ ss.take at_.toNat) ss := by
    have := List.perm_append_comm (l₁ := ss.drop at_.toNat) (l₂ := ss.take at_.toNat)
    rw [List.take_append_drop] at this
    exact this
  have ok2 : (ss.drop at_.toNat ++ ss.take at_.toNat).Nodup := pm.nodup_iff.mpr hs
  have len2 : (ss.drop at_.toNat ++ ss.take at_.toNat).length = ss.length := pm.length_eq
  generalize ss.drop at_.toNat ++ ss.take at_.toNat = tt at *
  clear pm
  repeat' done
  rw [List.length_map]
  refine compQ_map (fun d => match d with | .int k => pD (tt[k.toNat]?.getD 0, ws[k.toNat]?.getD []) | d => d) (.c .n (by repeat (first | exact Upd.zL | exact Upd.zN | exact Upd.zA (by assumption) | apply Upd.s))) (.c rfl .n (by repeat (first | exact Upd.zL | exact Upd.zN | exact Upd.zA (by assumption) | apply Upd.s))) ?_ (fun d hd => ?_) ?_
  · rw [rangeD_len]; unfold maxLen; omega
  · obtain ⟨k, hk, rfl⟩ := List.mem_map.mp hd
    have hk2 := List.mem_range.mp hk
    refine ⟨_, .name (by repeat (first | exact Upd.zL | exact Upd.zN | exact Upd.zA (by assumption) | apply Upd.s)), ?_⟩
    repeat' done
    refine Ops_ixR (.b rfl) (by omega) (by omega) fun s hs _ => ?_
    repeat' done
    refine Ops_ixR .vl (by omega) (by omega) fun w hw _ => ?_
    repeat' done
    refine ⟨?_, .c .n (by repeat (first | exact Upd.zL | exact Upd.zN | exact Upd.zA (by assumption) | apply Upd.s))⟩
    show _ = R.o (.val (pD (tt[(0 + (k : Int)).toNat]?.getD 0, ws[(0 + (k : Int)).toNat]?.getD [])))
    rw [hs, hw]; rfl
  have e : (rangeD 0 (ws.length : Int)).map (fun d => match d with | D.int k => pD (tt[k.toNat]?.getD 0, ws[k.toNat]?.getD []) | d => d) = (tt.zip ws).map pD := by
    unfold rangeD
    rw [List.map_map]
    apply List.ext_getElem?
    intro i
    rw [List.getElem?_map, List.getElem?_map]
    by_cases hi : i < ws.length
    · rw [List.getElem?_range (by omega), List.getElem?_eq_getElem (by rw [List.length_zip]; omega)]
      simp only [Option.map_some, Function.comp, List.getElem_zip]
      have : ((0 : Int) + (i : Nat)).toNat = i := by omega
      rw [this, List.getElem?_eq_getElem (by omega), List.getElem?_eq_getElem hi]; rfl
    · rw [List.getElem?_eq_none (by simp; omega), List.getElem?_eq_none (by rw [List.length_zip]; omega)]; rfl
  rw [e]
  have e2 : (tt.zip ws).map (·.2) = ws := by rw [← List.unzip_snd, List.unzip_zip_right (by omega)]
  have e1 : ((tt.zip ws).map (·.1)).Nodup := by
    have : ((tt.zip ws).map (·.1)) = tt.take ws.length := by
      refine List.ext_getElem (by simp; omega) fun i h1 h2 => ?_
      rw [List.getElem_map, List.getElem_zip, List.getElem_take]
    rw [this]
    exact ok2.sublist (List.take_sublist _ _)
  have g : Good (tt.zip ws) := ⟨fun p hp => hw _ (List.of_mem_zip hp).2, e1, by rw [e2]; exact hp⟩
  have e2 : ((tt.zip ws).map (·.2)).Perm ws := by rw [e2]
  generalize tt.zip ws = ps at *
  clear e
  repeat' done
  · rw [← List.map_reverse]
    exact q ps.reverse _ (g.perm (List.reverse_perm _)) (((List.reverse_perm _).map _).trans e2)
  · unfold code_law_table_r1
    repeat' done
    exact q ps _ g e2
end VS.K16
namespace VS.K16
open VS
local macro_rules | `(tactic| done) => `(tactic| first
  | with_reducible refine Wp_seq ?_
  | with_reducible refine seq_nx ?_
  | with_reducible refine seq_ret ?_
  | with_reducible refine seq_brk ?_
  | with_reducible refine seq_cnt ?_
  | with_reducible refine Wp_asg ?_
  | ((with_reducible apply Wp_app); (· exact rfl))
  | with_reducible refine Wp_setIx ?_
  | ((with_reducible apply isLst_and); (· exact rfl))
  | ((with_reducible apply asg_o); (· repeat (first | exact Upd.zL | exact Upd.zN | exact Upd.zA (by assumption) | apply Upd.s)))
  | ((with_reducible apply asg_b); (· exact rfl); (· repeat (first | exact Upd.zL | exact Upd.zN | exact Upd.zA (by assumption) | apply Upd.s)); (· repeat (first | exact Upd.zL | exact Upd.zN | exact Upd.zA (by assumption) | apply Upd.s)))
  | with_reducible refine Wp_op ?_
  | with_reducible refine Wp_cons ?_
  | with_reducible refine Wp_nil ?_
  | with_reducible refine Wp_call ?_
  | ((with_reducible apply Wp_var); (· exact rfl))
  | ((with_reducible apply Wp_varB); (· exact rfl); (· exact rfl))
  | with_reducible refine Wp_c ?_
  | with_reducible refine Wp_dict0 ?_
  | ((with_reducible apply Wp_pure); (· exact rfl))
  | with_reducible refine Wp_sret ?_
  | with_reducible refine ret_o ?_
  | ((with_reducible apply ret_b); (· exact rfl); (· repeat (first | exact Upd.zL | exact Upd.zN | exact Upd.zA (by assumption) | apply Upd.s)))
  | with_reducible refine Wp_sretN ?_
  | with_reducible refine Wp_if ?_
  | with_reducible refine Wp_next ?_
  | with_reducible refine Wp_brk ?_
  | with_reducible refine Wp_cnt ?_
  | with_reducible refine Wp_drop ?_
  | with_reducible refine Wp_test ?_
  | with_reducible refine Wp_and ?_
  | with_reducible refine Wp_or ?_
  | with_reducible refine Wp_not ?_
  | with_reducible refine Wp_notV ?_
  | with_reducible refine Wp_andV ?_
  | with_reducible refine Wp_orV ?_
  | with_reducible refine Wp_ifE ?_
  | with_reducible refine Wp_yes ?_
  | with_reducible refine Wp_chain ?_
  | with_reducible refine Wp_for ?_
  | with_reducible refine Wp_slice ?_
  | with_reducible refine Wp_noPart ?_
  | with_reducible refine Wp_part ?_
  | with_reducible refine Wp_compI ?_
  | with_reducible refine Wp_range1 ?_
  | with_reducible refine Wp_range2 ?_
  | with_reducible refine Wp_anyI ?_
  | with_reducible refine any_vL ?_
  | with_reducible refine any_vT ?_
  | with_reducible refine any_oL ?_
  | with_reducible refine any_vS ?_
  | ((with_reducible apply any_bL); (· exact rfl); (· repeat (first | exact Upd.zL | exact Upd.zN | exact Upd.zA (by assumption) | apply Upd.s)))
  | with_reducible refine for_nx ?_
  | with_reducible refine for_cnt ?_
  | with_reducible refine for_brk ?_
  | with_reducible refine for_ret ?_
  | ((with_reducible apply fn_ret); (· repeat (first | exact Outs.n | apply Outs.t | apply Outs.f)))
  | ((with_reducible apply fn_nx); (· repeat (first | exact Outs.n | apply Outs.t | apply Outs.f)))
  | with_reducible refine Wp_meth ?_
  | with_reducible refine Wp_make ?_
  | ((with_reducible apply isIns_and); (· exact rfl))
  | ((with_reducible apply Ops_fld); (· exact rfl))
  | with_reducible refine Ops_add ?_
  | with_reducible refine Ops_sub ?_
  | ((with_reducible apply Ops_mul); (· first | exact .inl (by decide) | exact .inr (by decide) | with_reducible exact .inl (small_fmod (by decide) (by decide)) | with_reducible exact .inr (small_fmod (by decide) (by decide)) | exact .inl (small_of (by omega) (by omega)) | exact .inr (small_of (by omega) (by omega))))
  | ((with_reducible apply Ops_div); (· first | omega | decide); (· first | omega | decide))
  | ((with_reducible apply Ops_mod); (· first | omega | decide))
  | ((with_reducible apply Ops_powL); (· decide); (· simp only [Int.reduceToNat, Int.reducePow]; exact rfl))
  | with_reducible refine Ops_neg ?_
  | with_reducible refine Ops_abs ?_
  | with_reducible refine Ops_max2 ?_
  | with_reducible refine Ops_min2 ?_
  | with_reducible refine Ops_inS ?_
  | with_reducible refine Ops_lt ?_
  | with_reducible refine Ops_le ?_
  | with_reducible refine Ops_gt ?_
  | with_reducible refine Ops_ge ?_
  | with_reducible refine Ops_eqI ?_
  | with_reducible refine Ops_neI ?_
  | ((with_reducible apply Ops_lenT))
  | with_reducible refine Ops_lenW ?_
  | ((with_reducible apply Ops_lenN))
  | ((with_reducible apply Ops_len); (· first | exact RD.v | exact RD.ol | exact RD.b rfl | exact RD.any rfl))
  | ((with_reducible apply Ops_lenS); (· first | (unfold maxLen; omega) | (simp only [List.length_map, List.length_append, List.length_cons, List.length_nil, List.length_reverse]; unfold maxLen; omega) | decide))
  | ((with_reducible apply Ops_addS); (· first | (unfold maxLen; omega) | (simp only [List.length_map, List.length_append, List.length_cons, List.length_nil, List.length_reverse]; unfold maxLen; omega) | decide))
  | ((with_reducible apply Ops_lstV); (· repeat (first | exact RVals.n | apply RVals.c)); (· exact Nat.le_of_ble_eq_true rfl))
  | ((with_reducible apply Ops_tupV); (· repeat (first | exact RVals.n | apply RVals.c)); (· exact Nat.le_of_ble_eq_true rfl))
  | ((with_reducible apply Ops_lst); (· repeat (first | exact Settles.n | apply Settles.c Settle.o)); (· exact Nat.le_of_ble_eq_true rfl))
  | ((with_reducible apply Ops_tup); (· repeat (first | exact Settles.n | apply Settles.c Settle.o)); (· exact Nat.le_of_ble_eq_true rfl))
  | ((with_reducible apply Ops_isT); (· exact rfl); (· exact rfl))
  | ((with_reducible apply Ops_eqD); (· first | exact RD.v | exact RD.ol | exact RD.b rfl | exact RD.any rfl); (· first | exact RD.v | exact RD.ol | exact RD.b rfl | exact RD.any rfl); (· first | exact okE_ints _ | exact okE_words _ | exact okE_pairs _ | exact okE_tints _ | exact okE_w _ | exact okE_cutT _ _ _ | exact okE_cutL _ _ _ | rfl | assumption); (· first | exact okE_ints _ | exact okE_words _ | exact okE_pairs _ | exact okE_tints _ | exact okE_w _ | exact okE_cutT _ _ _ | exact okE_cutL _ _ _ | rfl | assumption))
  | ((with_reducible apply Ops_neD); (· first | exact RD.v | exact RD.ol | exact RD.b rfl | exact RD.any rfl); (· first | exact RD.v | exact RD.ol | exact RD.b rfl | exact RD.any rfl); (· first | exact okE_ints _ | exact okE_words _ | exact okE_pairs _ | exact okE_tints _ | exact okE_w _ | exact okE_cutT _ _ _ | exact okE_cutL _ _ _ | rfl | assumption); (· first | exact okE_ints _ | exact okE_words _ | exact okE_pairs _ | exact okE_tints _ | exact okE_w _ | exact okE_cutT _ _ _ | exact okE_cutL _ _ _ | rfl | assumption))
  | ((with_reducible apply Ops_isN); (· exact rfl))
  | ((with_reducible apply Ops_isNotN); (· exact rfl))
  | ((with_reducible apply Ops_cat); (· first | exact Items.ol | exact Items.vl | exact Items.vt | exact Items.b rfl | exact Items.ol2 rfl | exact Items.b2 rfl rfl); (· first | exact Items.ol | exact Items.vl | exact Items.vt | exact Items.b rfl | exact Items.ol2 rfl | exact Items.b2 rfl rfl); (· first | (unfold maxLen; omega) | (simp only [List.length_map, List.length_append, List.length_cons, List.length_nil, List.length_reverse]; unfold maxLen; omega) | decide))
  | ((with_reducible apply Ops_catT); (· first | exact Items.ol | exact Items.vl | exact Items.vt | exact Items.b rfl | exact Items.ol2 rfl | exact Items.b2 rfl rfl); (· first | exact Items.ol | exact Items.vl | exact Items.vt | exact Items.b rfl | exact Items.ol2 rfl | exact Items.b2 rfl rfl); (· first | (unfold maxLen; omega) | (simp only [List.length_map, List.length_append, List.length_cons, List.length_nil, List.length_reverse]; unfold maxLen; omega) | decide))
  | ((with_reducible apply Ops_list); (· first | exact Items.ol | exact Items.vl | exact Items.vt | exact Items.b rfl | exact Items.ol2 rfl | exact Items.b2 rfl rfl))
  | ((with_reducible apply Ops_ix); (· first | exact Items.ol | exact Items.vl | exact Items.vt | exact Items.b rfl | exact Items.ol2 rfl | exact Items.b2 rfl rfl); (· exact rfl))
  | ((with_reducible apply Ops_revL); (· first | exact Items.ol | exact Items.vl | exact Items.vt | exact Items.b rfl | exact Items.ol2 rfl | exact Items.b2 rfl rfl))
  | ((with_reducible apply Ops_revT); (· first | exact Items.ol | exact Items.vl | exact Items.vt | exact Items.b rfl | exact Items.ol2 rfl | exact Items.b2 rfl rfl))
  | with_reducible refine Ops_intI ?_
  | with_reducible refine Wp_par ?_
  | ((with_reducible apply par_oo); (· repeat (first | exact Upd.zL | exact Upd.zN | exact Upd.zA (by assumption) | apply Upd.s)); (· repeat (first | exact Upd.zL | exact Upd.zN | exact Upd.zA (by assumption) | apply Upd.s)))
  | with_reducible refine Wp_range3 ?_
  | ((with_reducible apply Ops_tuple); (· first | exact Items.ol | exact Items.vl | exact Items.vt | exact Items.b rfl | exact Items.ol2 rfl | exact Items.b2 rfl rfl))
  | ((with_reducible apply append_plain); (· exact rfl); (· first | (unfold maxLen; omega) | (simp only [List.length_map, List.length_append, List.length_cons, List.length_nil, List.length_reverse]; unfold maxLen; omega) | decide); (· repeat (first | exact Put.zL | exact Put.zP | apply Put.s)))
  | ((with_reducible apply Sl_scr))
  | ((with_reducible apply Sl_lst); (· first | exact Items.ol | exact Items.vl | exact Items.vt | exact Items.b rfl | exact Items.ol2 rfl | exact Items.b2 rfl rfl))
  | ((with_reducible apply Sl_tup); (· first | exact Items.ol | exact Items.vl | exact Items.vt | exact Items.b rfl | exact Items.ol2 rfl | exact Items.b2 rfl rfl))
  | ((with_reducible apply Sl_str); (· first | (unfold maxLen; omega) | (simp only [List.length_map, List.length_append, List.length_cons, List.length_nil, List.length_reverse]; unfold maxLen; omega) | decide))
  | ((with_reducible apply callQ_draw); (· exact rfl); (· first | omega | decide); (· first | omega | decide); intro _ _ _ _)
  | ((with_reducible apply bigI_and); (· first | omega | (simp only [List.length_map, List.length_append, List.length_cons, List.length_nil, List.length_reverse]; omega)); (· first | omega | (simp only [List.length_map, List.length_append, List.length_cons, List.length_nil, List.length_reverse]; omega)))
  | (refine ⟨_, (by repeat (first | exact Put.zL | exact Put.zP | apply Put.s) : Put _ _ _ _), ?_⟩)
  | with_reducible refine ⟨_, rfl, ?_⟩
  | with_reducible refine ⟨_, _, rfl, rfl, ?_⟩
  | with_reducible refine br_t ?_
  | with_reducible refine br_f ?_
  | (with_reducible refine br_dec ?_ ?_ <;> intro _)
  | (with_reducible refine br_ndec ?_ ?_ <;> intro _)
  | with_reducible refine br_not ?_
  | ((with_reducible apply br_tr); (· exact rfl))
  | ((with_reducible apply br_fl); (· exact rfl))
  | ((with_reducible refine br_b ?_ ?_) <;> intro _))
theorem row_fs (h : Hand) (bs : List Int) (hb : 2 ≤ bs.length) (hb2 : bs.length ≤ 18) (ws : List (List Int)) (hw : ∀ w ∈ ws, BW 4 w) (hl : ws.length ≤ 100) {Q : O → List O → Prop} {X : Exc → List O → Prop} (q : ∀ (row : List Int) (h' : Hand), row.length ≤ 5 → Q (oLst (row.map .int)) [h'.o, .val (.lst (bs.map .int)), .val (.lst (ws.map wD))]) : FS sem_law_row [h.o, .val (.lst (bs.map .int)), .val (.lst (ws.map wD))] Q X := by
  refine FS_fnI (by repeat constructor) ?_
  unfold code_law_row
  have okw : okE (.lst (ws.map wD)) = true := okE_words ws
  have hne : bs ≠ [] := by intro e; subst e; simp at hb
  have hb1 : ((bs.map D.int).length : Int) ≠ 0 := by rw [List.length_map]; omega
  have comp : ∀ (g g0 : Hand) (w n : Int), 0 ≤ n → n < 5 → compQ [6] (Tg.name 6) yes (eOp2 gIx2 (eVar 1) (eOp2 (opS fMod) (eCall [true, false] sem_law_draw [eVar 0, eC (D.int 60)]) (eOp (opS fLen) (eArgs [eVar 1])))) (retQ (seqQ code_law_row_r3 (fnQ [true, false, false] [g0.o, O.val (D.lst (List.map D.int bs)), O.val (D.lst (List.map wD ws))] Q) fun x e => ∃ os', Outs [true, false, false] [g0.o, O.val (D.lst (List.map D.int bs)), O.val (D.lst (List.map wD ws))] e os' ∧ X x os')) (rangeD 0 n) [.par g.o, .loc (.val (.lst (bs.map .int))), .loc (.val (.lst (ws.map wD))), .loc (.val (.int w)), .no, .no, .no] := by
    intro g g0 w n hn0 hn1
    refine compQ_hand (fun h => [.par h.o, .loc (.val (.lst (bs.map .int))), .loc (.val (.lst (ws.map wD))), .loc (.val (.int w)), .no, .no, .no]) (fun h => [.par h.o, .loc (.val (.lst (bs.map .int))), .loc (.val (.lst (ws.map wD))), .loc (.val (.int w)), .no, .no, .no]) (fun _ y => ∃ i : Int, i ∈ bs ∧ y = .int i) (fun h => .c .n (by repeat (first | exact Upd.zL | exact Upd.zN | exact Upd.zA (by assumption) | apply Upd.s))) (fun h h' => .c rfl .n (by repeat (first | exact Upd.zL | exact Upd.zN | exact Upd.zA (by assumption) | apply Upd.s))) ?_ (fun d hd h => ?_) fun ys h' hl2 hy => ?_
    · rw [rangeD_len]; unfold maxLen; omega
    · refine ⟨_, .name (by repeat (first | exact Upd.zL | exact Upd.zN | exact Upd.zA (by assumption) | apply Upd.s)), ?_⟩
      repeat' done
      refine Ops_ixF .vl hne fun x hx => ?_
      exact ⟨_, _, rfl, ⟨x, hx, rfl⟩, .c .n (by repeat (first | exact Upd.zL | exact Upd.zN | exact Upd.zA (by assumption) | apply Upd.s))⟩
    obtain ⟨w, rfl, hwm⟩ := ints_ofP (P := (· ∈ bs)) fun y hy' => by
      obtain ⟨_, _, i, h, e⟩ := ys_all hl2 hy y hy'
      exact ⟨i, h, e⟩
    rw [rangeD_len, List.length_map] at hl2
    repeat' done
    exact q w h' (by omega)
  repeat' done
  · exact comp _ _ _ _ (by assumption) (by assumption)
  · exact comp _ _ _ _ (by assumption) (by assumption)
  rename_i r g hr0 hr1 hz hn
  have hn := ne_of_eqD hn
  have hl1 : ((ws.map wD).length : Int) ≠ 0 := by rw [List.length_map]; have := List.length_pos_iff.mpr hn; omega
  unfold code_law_row_r3
  repeat' done
  refine Ops_ixF .vl hn fun w hwm => ?_
  rw [show wD w = .tup (w.map .int) from rfl]
  have hw4 : ((w.map D.int).length : Int) ≤ 4 := by rw [List.length_map]; exact (hw w hwm).2.1
  have hw5 : (w.length : Int) ≤ 4 := (hw w hwm).2.1
  have r2 : ∀ (g : Hand) (c4 : Cell) (row : List Int), row.length ≤ 5 → Wp code_law_row_r2 [.par g.o, .loc (.val (.lst (bs.map .int))), .loc (.val (.lst (ws.map wD))), .loc (.val (.int r)), c4, .loc (oLst (row.map .int)), .no] (fnQ [true, false, false] [h.o, O.val (D.lst (List.map D.int bs)), O.val (D.lst (List.map wD ws))] Q) (fun x e => ∃ os', Outs [true, false, false] [h.o, O.val (D.lst (List.map D.int bs)), O.val (D.lst (List.map wD ws))] e os' ∧ X x os') := by
    intro g c4 row hrow
    have okr : okE (.lst (row.map .int)) = true := okE_ints row
    have fin : ∀ (g : Hand) (c4 : Cell) (row : List Int), row.length ≤ 5 → Wp code_law_row_r1 [.par g.o, .loc (.val (.lst (bs.map .int))), .loc (.val (.lst (ws.map wD))), .loc (.val (.int r)), c4, .loc (oLst (row.map .int)), .no] (fnQ [true, false, false] [h.o, O.val (D.lst (List.map D.int bs)), O.val (D.lst (List.map wD ws))] Q) (fun x e => ∃ os', Outs [true, false, false] [h.o, O.val (D.lst (List.map D.int bs)), O.val (D.lst (List.map wD ws))] e os' ∧ X x os') := by
      intro g c4 row hrow
      unfold code_law_row_r1
      repeat' done
      exact q row g hrow
    unfold code_law_row_r2
    repeat' done
    · exact fin _ _ _ hrow
    · rename_i hn _ _ _ _
      have hn := ne_of_eqD (f := D.int) hn
      have hl0 : 0 < (row.map D.int).length := by rw [List.length_map]; exact List.length_pos_iff.mpr hn
      have hl1 : (row.map D.int).length ≤ 5 := by rw [List.length_map]; exact hrow
      repeat' done
      refine setIx_plain rfl (by omega) (by omega) (by repeat (first | exact Put.zL | exact Put.zP | apply Put.s)) ?_
      repeat' done
      rw [← List.map_set]
      exact fin _ _ _ (by rw [List.length_set]; exact hrow)
    · exact fin _ _ _ hrow
  repeat' done
  · refine Ops_ixF .vl hne fun x hx => ?_
    repeat' done
    have e1 : w.map D.int ++ [D.int x] = (w ++ [x]).map D.int := by rw [List.map_append]; rfl
    rw [e1]
    repeat' done
    exact r2 _ _ _ (by rw [List.length_append]; simp only [List.length_cons, List.length_nil]; omega)
  · rename_i k g5 hk0 hk1 _
    rw [cutD_map, cutD_take _ hk0]
    exact r2 _ _ _ (by rw [List.length_take]; omega)
end VS.K16
namespace VS.K16
open VS
local macro_rules | `(tactic| done) => `(tactic| first
  | with_reducible refine Wp_seq ?_
  | with_reducible refine seq_nx ?_
  | with_reducible refine seq_ret ?_
  | with_reducible refine seq_brk ?_
  | with_reducible refine seq_cnt ?_
  | with_reducible refine Wp_asg ?_
  | ((with_reducible apply Wp_app); (· exact rfl))
  | with_reducible refine Wp_setIx ?_
  | ((with_reducible apply isLst_and); (· exact rfl))
  | ((with_reducible apply asg_o); (· repeat (first | exact Upd.zL | exact Upd.zN | exact Upd.zA (by assumption) | apply Upd.s)))
  | ((with_reducible apply asg_b); (· exact rfl); (· repeat (first | exact Upd.zL | exact Upd.zN | exact Upd.zA (by assumption) | apply Upd.s)); (· repeat (first | exact Upd.zL | exact Upd.zN | exact Upd.zA (by assumption) | apply Upd.s)))
  | with_reducible refine Wp_op ?_
  | with_reducible refine Wp_cons ?_
  | with_reducible refine Wp_nil ?_
  | with_reducible refine Wp_call ?_
  | ((with_reducible apply Wp_var); (· exact rfl))
  | ((with_reducible apply Wp_varB); (· exact rfl); (· exact rfl))
  | with_reducible refine Wp_c ?_
  | with_reducible refine Wp_dict0 ?_
  | ((with_reducible apply Wp_pure); (· exact rfl))
  | with_reducible refine Wp_sret ?_
  | with_reducible refine ret_o ?_
  | ((with_reducible apply ret_b); (· exact rfl); (· repeat (first | exact Upd.zL | exact Upd.zN | exact Upd.zA (by assumption) | apply Upd.s)))
  | with_reducible refine Wp_sretN ?_
  | with_reducible refine Wp_if ?_
  | with_reducible refine Wp_next ?_
  | with_reducible refine Wp_brk ?_
  | with_reducible refine Wp_cnt ?_
  | with_reducible refine Wp_drop ?_
  | with_reducible refine Wp_test ?_
  | with_reducible refine Wp_and ?_
  | with_reducible refine Wp_or ?_
  | with_reducible refine Wp_not ?_
  | with_reducible refine Wp_notV ?_
  | with_reducible refine Wp_andV ?_
  | with_reducible refine Wp_orV ?_
  | with_reducible refine Wp_ifE ?_
  | with_reducible refine Wp_yes ?_
  | with_reducible refine Wp_chain ?_
  | with_reducible refine Wp_for ?_
  | with_reducible refine Wp_slice ?_
  | with_reducible refine Wp_noPart ?_
  | with_reducible refine Wp_part ?_
  | with_reducible refine Wp_compI ?_
  | with_reducible refine Wp_range1 ?_
  | with_reducible refine Wp_range2 ?_
  | with_reducible refine Wp_anyI ?_
  | with_reducible refine any_vL ?_
  | with_reducible refine any_vT ?_
  | with_reducible refine any_oL ?_
  | with_reducible refine any_vS ?_
  | ((with_reducible apply any_bL); (· exact rfl); (· repeat (first | exact Upd.zL | exact Upd.zN | exact Upd.zA (by assumption) | apply Upd.s)))
  | with_reducible refine for_nx ?_
  | with_reducible refine for_cnt ?_
  | with_reducible refine for_brk ?_
  | with_reducible refine for_ret ?_
  | ((with_reducible apply fn_ret); (· repeat (first | exact Outs.n | apply Outs.t | apply Outs.f)))
  | ((with_reducible apply fn_nx); (· repeat (first | exact Outs.n | apply Outs.t | apply Outs.f)))
  | with_reducible refine Wp_meth ?_
  | with_reducible refine Wp_make ?_
  | ((with_reducible apply isIns_and); (· exact rfl))
  | ((with_reducible apply Ops_fld); (· exact rfl))
  | with_reducible refine Ops_add ?_
  | with_reducible refine Ops_sub ?_
  | ((with_reducible apply Ops_mul); (· first | exact .inl (by decide) | exact .inr (by decide) | with_reducible exact .inl (small_fmod (by decide) (by decide)) | with_reducible exact .inr (small_fmod (by decide) (by decide)) | exact .inl (small_of (by omega) (by omega)) | exact .inr (small_of (by omega) (by omega))))
  | ((with_reducible apply Ops_div); (· first | omega | decide); (· first | omega | decide))
  | ((with_reducible apply Ops_mod); (· first | omega | decide))
  | ((with_reducible apply Ops_powL); (· decide); (· simp only [Int.reduceToNat, Int.reducePow]; exact rfl))
  | with_reducible refine Ops_neg ?_
  | with_reducible refine Ops_abs ?_
  | with_reducible refine Ops_max2 ?_
  | with_reducible refine Ops_min2 ?_
  | with_reducible refine Ops_inS ?_
  | with_reducible refine Ops_lt ?_
  | with_reducible refine Ops_le ?_
  | with_reducible refine Ops_gt ?_
  | with_reducible refine Ops_ge ?_
  | with_reducible refine Ops_eqI ?_
  | with_reducible refine Ops_neI ?_
  | ((with_reducible apply Ops_lenT))
  | with_reducible refine Ops_lenW ?_
  | ((with_reducible apply Ops_lenN))
  | ((with_reducible apply Ops_len); (· first | exact RD.v | exact RD.ol | exact RD.b rfl | exact RD.any rfl))
  | ((with_reducible apply Ops_lenS); (· first | (unfold maxLen; omega) | (simp only [List.length_map, List.length_append, List.length_cons, List.length_nil, List.length_reverse]; unfold maxLen; omega) | decide))
  | ((with_reducible apply Ops_addS); (· first | (unfold maxLen; omega) | (simp only [List.length_map, List.length_append, List.length_cons, List.length_nil, List.length_reverse]; unfold maxLen; omega) | decide))
  | ((with_reducible apply Ops_lstV); (· repeat (first | exact RVals.n | apply RVals.c)); (· exact Nat.le_of_ble_eq_true rfl))
  | ((with_reducible apply Ops_tupV); (· repeat (first | exact RVals.n | apply RVals.c)); (· exact Nat.le_of_ble_eq_true rfl))
  | ((with_reducible apply Ops_lst); (· repeat (first | exact Settles.n | apply Settles.c Settle.o)); (· exact Nat.le_of_ble_eq_true rfl))
  | ((with_reducible apply Ops_tup); (· repeat (first | exact Settles.n | apply Settles.c Settle.o)); (· exact Nat.le_of_ble_eq_true rfl))
  | ((with_reducible apply Ops_isT); (· exact rfl); (· exact rfl))
  | ((with_reducible apply Ops_eqD); (· first | exact RD.v | exact RD.ol | exact RD.b rfl | exact RD.any rfl); (· first | exact RD.v | exact RD.ol | exact RD.b rfl | exact RD.any rfl); (· first | exact okE_ints _ | exact okE_words _ | exact okE_pairs _ | exact okE_tints _ | exact okE_w _ | exact okE_cutT _ _ _ | exact okE_cutL _ _ _ | rfl | assumption); (· first | exact okE_ints _ | exact okE_words _ | exact okE_pairs _ | exact okE_tints _ | exact okE_w _ | exact okE_cutT _ _ _ | exact okE_cutL _ _ _ | rfl | assumption))
  | ((with_reducible apply Ops_neD); (· first | exact RD.v | exact RD.ol | exact RD.b rfl | exact RD.any rfl); (· first | exact RD.v | exact RD.ol | exact RD.b rfl | exact RD.any rfl); (· first | exact okE_ints _ | exact okE_words _ | exact okE_pairs _ | exact okE_tints _ | exact okE_w _ | exact okE_cutT _ _ _ | exact okE_cutL _ _ _ | rfl | assumption); (· first | exact okE_ints _ | exact okE_words _ | exact okE_pairs _ | exact okE_tints _ | exact okE_w _ | exact okE_cutT _ _ _ | exact okE_cutL _ _ _ | rfl | assumption))
  | ((with_reducible apply Ops_isN); (· exact rfl))
  | ((with_reducible apply Ops_isNotN); (· exact rfl))
  | ((with_reducible apply Ops_cat); (· first | exact Items.ol | exact Items.vl | exact Items.vt | exact Items.b rfl | exact Items.ol2 rfl | exact Items.b2 rfl rfl); (· first | exact Items.ol | exact Items.vl | exact Items.vt | exact Items.b rfl | exact Items.ol2 rfl | exact Items.b2 rfl rfl); (· first | (unfold maxLen; omega) | (simp only [List.length_map, List.length_append, List.length_cons, List.length_nil, List.length_reverse]; unfold maxLen; omega) | decide))
  | ((with_reducible apply Ops_catT); (· first | exact Items.ol | exact Items.vl | exact Items.vt | exact Items.b rfl | exact Items.ol2 rfl | exact Items.b2 rfl rfl); (· first | exact Items.ol | exact Items.vl | exact Items.vt | exact Items.b rfl | exact Items.ol2 rfl | exact Items.b2 rfl rfl); (· first | (unfold maxLen; omega) | (simp only [List.length_map, List.length_append, List.length_cons, List.length_nil, List.length_reverse]; unfold maxLen; omega) | decide))
  | ((with_reducible apply Ops_list); (· first | exact Items.ol | exact Items.vl | exact Items.vt | exact Items.b rfl | exact Items.ol2 rfl | exact Items.b2 rfl rfl))
  | ((with_reducible apply Ops_ix); (· first | exact Items.ol | exact Items.vl | exact Items.vt | exact Items.b rfl | exact Items.ol2 rfl | exact Items.b2 rfl rfl); (· exact rfl))
  | ((with_reducible apply Ops_revL); (· first | exact Items.ol | exact Items.vl | exact Items.vt | exact Items.b rfl | exact Items.ol2 rfl | exact Items.b2 rfl rfl))
  | ((with_reducible apply Ops_revT); (· first | exact Items.ol | exact Items.vl | exact Items.vt | exact Items.b rfl | exact Items.ol2 rfl | exact Items.b2 rfl rfl))
  | with_reducible refine Ops_intI ?_
  | with_reducible refine Wp_par ?_
  | ((with_reducible apply par_oo); (· repeat (first | exact Upd.zL | exact Upd.zN | exact Upd.zA (by assumption) | apply Upd.s)); (· repeat (first | exact Upd.zL | exact Upd.zN | exact Upd.zA (by assumption) | apply Upd.s)))
  | with_reducible refine Wp_range3 ?_
  | ((with_reducible apply Ops_tuple); (· first | exact Items.ol | exact Items.vl | exact Items.vt | exact Items.b rfl | exact Items.ol2 rfl | exact Items.b2 rfl rfl))
  | ((with_reducible apply append_plain); (· exact rfl); (· first | (unfold maxLen; omega) | (simp only [List.length_map, List.length_append, List.length_cons, List.length_nil, List.length_reverse]; unfold maxLen; omega) | decide); (· repeat (first | exact Put.zL | exact Put.zP | apply Put.s)))
  | ((with_reducible apply Sl_scr))
  | ((with_reducible apply Sl_lst); (· first | exact Items.ol | exact Items.vl | exact Items.vt | exact Items.b rfl | exact Items.ol2 rfl | exact Items.b2 rfl rfl))
  | ((with_reducible apply Sl_tup); (· first | exact Items.ol | exact Items.vl | exact Items.vt | exact Items.b rfl | exact Items.ol2 rfl | exact Items.b2 rfl rfl))
  | ((with_reducible apply Sl_str); (· first | (unfold maxLen; omega) | (simp only [List.length_map, List.length_append, List.length_cons, List.length_nil, List.length_reverse]; unfold maxLen; omega) | decide))
  | ((with_reducible apply callQ_draw); (· exact rfl); (· first | omega | decide); (· first | omega | decide); intro _ _ _ _)
  | ((with_reducible apply bigI_and); (· first | omega | (simp only [List.length_map, List.length_append, List.length_cons, List.length_nil, List.length_reverse]; omega)); (· first | omega | (simp only [List.length_map, List.length_append, List.length_cons, List.length_nil, List.length_reverse]; omega)))
  | (refine ⟨_, (by repeat (first | exact Put.zL | exact Put.zP | apply Put.s) : Put _ _ _ _), ?_⟩)
  | with_reducible refine ⟨_, rfl, ?_⟩
  | with_reducible refine ⟨_, _, rfl, rfl, ?_⟩
  | with_reducible refine br_t ?_
  | with_reducible refine br_f ?_
  | (with_reducible refine br_dec ?_ ?_ <;> intro _)
  | (with_reducible refine br_ndec ?_ ?_ <;> intro _)
  | with_reducible refine br_not ?_
  | ((with_reducible apply br_tr); (· exact rfl))
  | ((with_reducible apply br_fl); (· exact rfl))
  | ((with_reducible refine br_b ?_ ?_) <;> intro _))
theorem Ops_ixB {env e1 : VEnv} {Q : R → VEnv → Prop} {i : Nat} {k : Int} {os : List O} {o : O} (h : env[i]? = some (.loc (.lst os))) (hv : vals os = none) (h2 : atD os k = some o) (u : Upd env i (.loc (.lst (os.map fun o => .val o.data))) e1) (q : Q (.o (.val o.data)) e1) : Ops gIx2 [.b i, .o (.val (.int k))] Q env := by
  refine Ops_mk ?_ q
  have h3 : env.at i = some (.lst os) := by unfold VEnv.at; rw [h]
  unfold gIx2 gIx opOr opIx opIxT opIxB
  simp [R.items, R.data, R.own, O.data, h, h3, hv, h2, u.set]
theorem Wp_compO {is : List Nat} {t : Tg} {ee : EV} {QL : List O → VEnv → Prop} (E : Hand → VEnv) (P : D → O → Prop) {ds : List D} (hl : ds.length ≤ maxLen) (h : Hand)
    (hs : ∀ d ∈ ds, ∀ h : Hand, ∃ e1, SetT t (.val d) (E h) e1 ∧ Wp ee e1 (fun r e3 => ∃ y h', r = .o y ∧ P d y ∧ Hide is e3 (E h')) (fun _ _ => False)) (q : ∀ (ys : List O) (h' : Hand), ys.length = ds.length → (∀ (k : Nat) (d : D) (y : O), ds[k]? = some d → ys[k]? = some y → P d y) → QL ys (E h')) : Wp (compL is t yes ee ds []) (E h) QL (fun _ _ => False) := by
  refine Wp_mono (Wp_compL (QL := fun os e => ∃ (h' : Hand), e = E h' ∧ os.length = ds.length ∧ ∀ (k : Nat) (d : D) (y : O), ds[k]? = some d → os[k]? = some y → P d y) (fun rs ys e => ∃ (ps : List D) (h' : Hand), e = E h' ∧ ds = ps ++ rs ∧ ys.length = ps.length ∧ ∀ (k : Nat) (d : D) (y : O), ps[k]? = some d → ys[k]? = some y → P d y) (fun d rs ys e h => ?_) (fun acc e h => ?_) ds [] (E h) ⟨[], h, rfl, rfl, rfl, fun k d y h => by simp at h⟩) (fun os e h => ?_) fun _ _ h => h.elim
  · obtain ⟨ps, h', rfl, h1, h2, h3⟩ := h
    obtain ⟨e1, h4, h5⟩ := hs d (by rw [h1]; simp) h'
    refine ⟨e1, h4, Wp_yes ⟨fun _ => Wp_mono h5 (fun r e3 h => ?_) fun _ _ h => h, fun h => by cases h⟩⟩
    obtain ⟨y, h'', rfl, hp, hh⟩ := h
    refine ⟨_, e3, E h'', .o, ?_, hh, ps ++ [d], h'', rfl, by simp [h1], by simp [h2], fun k d' y' hd hy => ?_⟩
    · have := congrArg List.length h1
      simp at this ⊢
      omega
    · by_cases hk : k < ps.length
      · rw [List.getElem?_append_left hk] at hd
        rw [List.getElem?_append_left (by omega)] at hy
        exact h3 k d' y' hd hy
      · have : k = ps.length := by
          have := (List.getElem?_eq_some_iff.mp hd).1
          simp at this
          omega
        subst this
        rw [List.getElem?_append_right (Nat.le_refl _), Nat.sub_self] at hd
        rw [← h2, List.getElem?_append_right (Nat.le_refl _), Nat.sub_self] at hy
        cases hd
        cases hy
        exact hp
  · obtain ⟨ps, h', rfl, h1, h2, h3⟩ := h
    rw [List.append_nil] at h1
    subst h1
    exact ⟨h', rfl, h2, h3⟩
  · obtain ⟨h', rfl, h2, h3⟩ := h
    exact q os h' h2 h3
theorem compQ_handO {is : List Nat} {t : Tg} {ee : EV} {Q : R → VEnv → Prop} (E E0 : Hand → VEnv) (P : D → O → Prop) {ds : List D} (hh : ∀ h, Hide is (E h) (E0 h)) (hb : ∀ h h', Back is (E h) (E0 h') (E h')) (hl : ds.length ≤ maxLen) {h : Hand}
    (hs : ∀ d ∈ ds, ∀ h : Hand, ∃ e1, SetT t (.val d) (E0 h) e1 ∧ Wp ee e1 (fun r e3 => ∃ y h', r = .o y ∧ P d y ∧ Hide is e3 (E0 h')) (fun _ _ => False)) (q : ∀ (ys : List O) (h' : Hand), ys.length = ds.length → (∀ (k : Nat) (d : D) (y : O), ds[k]? = some d → ys[k]? = some y → P d y) → Q (.o (.lst ys)) (E h')) : compQ is t yes ee Q ds (E h) :=
  ⟨E0 h, hh h, Wp_compO E0 P hl h hs fun ys h' l p => ⟨E h', hb h h', q ys h' l p⟩⟩
theorem two_items {α : Type} {ys : List α} (h : ys.length = 2) : ∃ a b, ys = [a, b] ∧ ys[0]? = some a ∧ ys[1]? = some b := by
  match ys, h with
  | [a, b], _ => exact ⟨a, b, rfl, rfl, rfl⟩
theorem live_due (ps : List (Int × List Int)) (ws : List (List Int)) (h : (ps.map (·.2)).Perm ws) (row : List Int) : liveB (byWord ps) row = dueB ws row := by
  have h2 : ((byWord ps).map (·.2)).Perm ws := ((List.mergeSort_perm _ _).map _).trans h
  unfold liveB dueB
  rw [← h2.any_eq, List.any_map]
  rfl
def words2 (w1 w2 : List (List Int)) : List D := [.lst (w1.map wD), .lst (w2.map wD)]
structure WG (ws : List (List Int)) : Prop where
  bw : ∀ w ∈ ws, BW 4 w
  pf : ws.Pairwise PFree
  len : ws.length ≤ 24
def codes2 (p1 p2 : List (Int × List Int)) : List D := [codeD (byWord p1), codeD (byWord p2)]
theorem Good.bySorted {ps : List (Int × List Int)} (h : Good ps) : ∀ p ∈ byWord ps, BW 4 p.2 := (byWord_good h).bw
theorem law_b1 (ns bs ss row : List Int) (b2 : bs ≠ []) (hr : row.length ≤ 1000) (w1 w2 : List (List Int)) (g1 : WG w1) (g2 : WG w2) (p1 p2 : List (Int × List Int)) (gp1 : Good p1) (gp2 : Good p2) (pm1 : (p1.map (·.2)).Perm w1) (pm2 : (p2.map (·.2)).Perm w2) (h : Hand) (os : List O) (hos : datas os = codes2 p1 p2) (k : Int) (hk : k = 0 ∨ k = 1) (c6 c8 c10 c11 : Cell) (h10 : LN c10) (h11 : LN c11) {QS : Out → VEnv → Prop} {X : Exc → VEnv → Prop}
    (q : ∀ os c10 c11, datas os = codes2 p1 p2 → LN c10 → LN c11 → QS .nx [.loc (.val (.scr ns)), .loc h.o, .loc (oLst (bs.map .int)), .loc (.val (.lst (words2 w1 w2))), .loc (oLst (ss.map .int)), .loc (.lst os), c6, .loc (oLst (row.map .int)), c8, .loc (.val (.int k)), c10, c11, .no]) :
    Wp code_law_b1 [.loc (.val (.scr ns)), .loc h.o, .loc (oLst (bs.map .int)), .loc (.val (.lst (words2 w1 w2))), .loc (oLst (ss.map .int)), .loc (.lst os), c6, .loc (oLst (row.map .int)), c8, .loc (.val (.int k)), c10, c11, .no] QS X := by
  have main : ∀ (ps : List (Int × List Int)) (ws : List (List Int)) (o : O), atD os k = some o → o.data = codeD (byWord ps) → atD (words2 w1 w2) k = some (.lst (ws.map wD)) → Good ps → (ps.map (·.2)).Perm ws → WG ws → Wp code_law_b1 [.loc (.val (.scr ns)), .loc h.o, .loc (oLst (bs.map .int)), .loc (.val (.lst (words2 w1 w2))), .loc (oLst (ss.map .int)), .loc (.lst os), c6, .loc (oLst (row.map .int)), c8, .loc (.val (.int k)), c10, c11, .no] QS X := by
    intro ps ws o ho hd hw gp pm g
    have lps : ps.length ≤ 24 := by
      have := pm.length_eq
      rw [List.length_map] at this
      rw [this]; exact g.len
    have lbw : (byWord ps).length ≤ 1000 := by unfold byWord; rw [List.length_mergeSort]; omega
    have okr := okE_ints row
    unfold code_law_b1
    repeat' done
    refine Ops_ixA (o := o) rfl ho (by repeat (first | exact Upd.zL | exact Upd.zN | exact Upd.zA (by assumption) | apply Upd.s)) ?_
    rw [hd]
    refine ⟨rfl, ?_⟩
    repeat' done
    apply callQ_go
    · repeat (first | exact Args.n | apply Args.fv | apply Args.t rfl | apply Args.f (RD.b rfl).eq | apply Args.f RD.ol.eq | apply Args.f rfl)
    · first | exact rfl | simp [okSlots, mutSlots, borSlots]
    refine (live_fs (byWord ps) gp.bySorted lbw row hr ⟨(by first | exact Or.inl rfl | exact Or.inr rfl | (apply Or.inr; simp [FRes.clean, cleanMuts, Hand.clean, clean_val, D.imm, imms, oLst_clean_ints, oLst_clean_words, oLst_clean_pairs, wD_imm, pD_imm, List.all])), _, (by repeat (first | exact Puts.n | exact Put.zL | exact Put.zP | apply Put.s | apply Puts.f | apply Puts.t | apply Puts.o)), ?_⟩)
    repeat' done
    refine Ops_ix .vl hw ?_
    repeat' done
    apply callQ_go
    · repeat (first | exact Args.n | apply Args.fv | apply Args.t rfl | apply Args.f (RD.b rfl).eq | apply Args.f RD.ol.eq | apply Args.f rfl)
    · first | exact rfl | simp [okSlots, mutSlots, borSlots]
    refine (due_fs ws (by have := g.len; omega) g.bw row hr ⟨(by first | exact Or.inl rfl | exact Or.inr rfl | (apply Or.inr; simp [FRes.clean, cleanMuts, Hand.clean, clean_val, D.imm, imms, oLst_clean_ints, oLst_clean_words, oLst_clean_pairs, wD_imm, pD_imm, List.all])), _, (by repeat (first | exact Puts.n | exact Put.zL | exact Put.zP | apply Put.s | apply Puts.f | apply Puts.t | apply Puts.o)), ?_⟩)
    rw [live_due ps ws pm]
    repeat' done
    rotate_left
    · rename_i hb
      rw [eqD_lints, decide_eq_false_iff_not] at hb
      exact absurd rfl hb
    · rename_i hb
      simp [eqD] at hb
    unfold code_law_r1
    repeat' done
    refine Ops_ixR (.b rfl) (by decide) (by have := List.length_pos_iff.mpr b2; omega) fun b hb _ => ?_
    repeat' done
    refine q _ _ _ ?_ (by exact True.intro) (by exact True.intro)
    rw [← hos, datas_map, datas_map, List.map_map]
    rfl
  have h0 : ∃ o1 o2, os = [o1, o2] ∧ o1.data = codeD (byWord p1) ∧ o2.data = codeD (byWord p2) := by
    rw [datas_map] at hos
    have hl : os.length = 2 := by simpa [codes2] using congrArg List.length hos
    obtain ⟨o1, o2, rfl, _⟩ := two_items hl
    simp only [codes2, List.map_cons, List.map_nil, List.cons.injEq, and_true] at hos
    exact ⟨o1, o2, rfl, hos.1, hos.2⟩
  obtain ⟨o1, o2, rfl, e1, e2⟩ := h0
  rcases hk with rfl | rfl
  · exact main p1 w1 o1 rfl e1 rfl gp1 pm1 g1
  · exact main p2 w2 o2 rfl e2 rfl gp2 pm2 g2
theorem law_r2 (ns bs ss row : List Int) (b2 : bs ≠ []) (hr : row.length ≤ 1000) (w1 w2 : List (List Int)) (g1 : WG w1) (g2 : WG w2) (p1 p2 : List (Int × List Int)) (gp1 : Good p1) (gp2 : Good p2) (pm1 : (p1.map (·.2)).Perm w1) (pm2 : (p2.map (·.2)).Perm w2) (h : Hand) (o : O) (ho : o = oLst (row.map .int)) (os : List O) (hos : datas os = codes2 p1 p2) (c6 c8 c9 c10 c11 : Cell) (h8 : LN c8) (h9 : LN c9) (h10 : LN c10) (h11 : LN c11) {QS : Out → VEnv → Prop} {X : Exc → VEnv → Prop}
    (q : ∀ (h : Hand) c7 os c8 c9 c10 c11, datas os = codes2 p1 p2 → LN c7 → LN c8 → LN c9 → LN c10 → LN c11 → QS .nx [.loc (.val (.scr ns)), .loc h.o, .loc (oLst (bs.map .int)), .loc (.val (.lst (words2 w1 w2))), .loc (oLst (ss.map .int)), .loc (.lst os), c6, c7, c8, c9, c10, c11, .no]) :
    Wp code_law_r2 [.loc (.val (.scr ns)), .loc h.o, .loc (oLst (bs.map .int)), .loc (.val (.lst (words2 w1 w2))), .loc (oLst (ss.map .int)), .loc (.lst os), c6, .loc o, c8, c9, c10, c11, .no] QS X := by
  subst ho
  unfold code_law_r2
  repeat' done
  rename_i r g hr0 hr1
  refine Wp_forT D.int [r, 1 - r, r] (fun _ e => ∃ os c9 c10 c11, datas os = codes2 p1 p2 ∧ LN c9 ∧ LN c10 ∧ LN c11 ∧ e = [.loc (.val (.scr ns)), .loc g.o, .loc (oLst (bs.map .int)), .loc (.val (.lst (words2 w1 w2))), .loc (oLst (ss.map .int)), .loc (.lst os), c6, .loc (oLst (row.map .int)), .loc (.val (.int r)), c9, c10, c11, .no]) (fun ys x zs e hx hI => ?_) (fun e hI => ?_) ⟨os, c9, c10, c11, hos, h9, h10, h11, rfl⟩
  · obtain ⟨os, c9, c10, c11, hos, h9, h10, h11, rfl⟩ := hI
    refine ⟨_, .name (by repeat (first | exact Upd.zL | exact Upd.zN | exact Upd.zA (by assumption) | apply Upd.s)), ?_⟩
    have hk : x = 0 ∨ x = 1 := by
      have : x ∈ [r, 1 - r, r] := by rw [hx]; simp
      simp at this
      omega
    exact law_b1 ns bs ss row b2 hr w1 w2 g1 g2 p1 p2 gp1 gp2 pm1 pm2 g os hos x hk _ _ _ _ h10 h11 fun os c10 c11 a b c => for_nx ⟨os, _, c10, c11, a, (by exact True.intro), b, c, rfl⟩
  · obtain ⟨os, c9, c10, c11, hos, h9, h10, h11, rfl⟩ := hI
    exact q g _ os _ _ _ _ hos (by exact True.intro) (by exact True.intro) h9 h10 h11
theorem law_b2 (ns bs ss : List Int) (b2 : 2 ≤ bs.length) (b18 : bs.length ≤ 18) (w1 w2 : List (List Int)) (g1 : WG w1) (g2 : WG w2) (p1 p2 : List (Int × List Int)) (gp1 : Good p1) (gp2 : Good p2) (pm1 : (p1.map (·.2)).Perm w1) (pm2 : (p2.map (·.2)).Perm w2) (h : Hand) (os : List O) (hos : datas os = codes2 p1 p2) (k : Int) (hk : 0 ≤ k) (c7 c8 c9 c10 c11 : Cell) (h7 : LN c7) (h8 : LN c8) (h9 : LN c9) (h10 : LN c10) (h11 : LN c11) {QS : Out → VEnv → Prop} {X : Exc → VEnv → Prop}
    (q : ∀ (h : Hand) c7 os c8 c9 c10 c11, datas os = codes2 p1 p2 → LN c7 → LN c8 → LN c9 → LN c10 → LN c11 → QS .nx [.loc (.val (.scr ns)), .loc h.o, .loc (oLst (bs.map .int)), .loc (.val (.lst (words2 w1 w2))), .loc (oLst (ss.map .int)), .loc (.lst os), .loc (.val (.int k)), c7, c8, c9, c10, c11, .no]) :
    Wp code_law_b2 [.loc (.val (.scr ns)), .loc h.o, .loc (oLst (bs.map .int)), .loc (.val (.lst (words2 w1 w2))), .loc (oLst (ss.map .int)), .loc (.lst os), .loc (.val (.int k)), c7, c8, c9, c10, c11, .no] QS X := by
  unfold code_law_b2
  have l1 := g1.len
  have l2 := g2.len
  have hne : bs ≠ [] := by intro e; subst e; simp at b2
  repeat' done
  apply callQ_go
  · repeat (first | exact Args.n | apply Args.fv | apply Args.t rfl | apply Args.f (RD.b rfl).eq | apply Args.f RD.ol.eq | apply Args.f rfl)
  · first | exact rfl | simp [okSlots, mutSlots, borSlots]
  refine (open_fs ns k hk fun h => ⟨(by first | exact Or.inl rfl | exact Or.inr rfl | (apply Or.inr; simp [FRes.clean, cleanMuts, Hand.clean, clean_val, D.imm, imms, oLst_clean_ints, oLst_clean_words, oLst_clean_pairs, wD_imm, pD_imm, List.all])), _, (by repeat (first | exact Puts.n | exact Put.zL | exact Put.zP | apply Put.s | apply Puts.f | apply Puts.t | apply Puts.o)), ?_⟩)
  repeat' done
  rw [← List.map_append]
  apply callQ_go
  · repeat (first | exact Args.n | apply Args.fv | apply Args.t rfl | apply Args.f (RD.b rfl).eq | apply Args.f RD.ol.eq | apply Args.f rfl)
  · first | exact rfl | simp [okSlots, mutSlots, borSlots]
  refine (row_fs h bs b2 b18 (w1 ++ w2) (fun w hw => by rcases List.mem_append.mp hw with h | h; exact g1.bw w h; exact g2.bw w h) (by rw [List.length_append]; omega) fun row h' hrl => ⟨(by first | exact Or.inl rfl | exact Or.inr rfl | (apply Or.inr; simp [FRes.clean, cleanMuts, Hand.clean, clean_val, D.imm, imms, oLst_clean_ints, oLst_clean_words, oLst_clean_pairs, wD_imm, pD_imm, List.all])), _, (by repeat (first | exact Puts.n | exact Put.zL | exact Put.zP | apply Put.s | apply Puts.f | apply Puts.t | apply Puts.o)), ?_⟩)
  have fin : ∀ (g : Hand) (row : List Int), row.length ≤ 1000 → Wp code_law_r2 [.loc (.val (.scr ns)), .loc g.o, .loc (oLst (bs.map .int)), .loc (.val (.lst (words2 w1 w2))), .loc (oLst (ss.map .int)), .loc (.lst os), .loc (.val (.int k)), .loc (oLst (row.map .int)), c8, c9, c10, c11, .no] QS X := fun g row hr =>
    law_r2 ns bs ss row hne hr w1 w2 g1 g2 p1 p2 gp1 gp2 pm1 pm2 g _ rfl os hos _ _ _ _ _ h8 h9 h10 h11 fun h c7 os c8 c9 c10 c11 a b c d e f => q h c7 os c8 c9 c10 c11 a b c d e f
  repeat' done
  · refine Ops_rep (.b rfl) ⟨by decide, by decide, by rw [List.length_map]; have : (200 : Int).toNat = 200 := rfl; rw [this]; unfold maxLen; omega⟩ ?_
    have e2 : (List.replicate (200 : Int).toNat (row.map D.int)).flatten = ((List.replicate 200 row).flatten).map D.int := by
      rw [List.map_flatten, List.map_replicate]; rfl
    rw [e2]
    repeat' done
    rw [cutD_map, cutD_take _ (by decide)]
    exact fin _ _ (by rw [List.length_take]; exact Nat.le_trans (Nat.min_le_left _ _) (by decide))
  · exact fin _ _ (by omega)
  · exact fin _ _ (by omega)
theorem mem_codes {sp : List (Int × List Int)} : (codeO sp sp).data = codeD sp := codeO_data sp
theorem law_fs (ns : List Int) {Q : O → List O → Prop} {X : Exc → List O → Prop} (q : Q (.val (.bl true)) [.val (.scr ns)]) : FS sem_law [.val (.scr ns)] Q X := by
  refine FS_fnI (by repeat constructor) ?_
  unfold code_law
  repeat' done
  apply callQ_go
  · repeat (first | exact Args.n | apply Args.fv | apply Args.t rfl | apply Args.f (RD.b rfl).eq | apply Args.f RD.ol.eq | apply Args.f rfl)
  · first | exact rfl | simp [okSlots, mutSlots, borSlots]
  refine (open_fs ns 0 (by omega) fun h => ⟨(by first | exact Or.inl rfl | exact Or.inr rfl | (apply Or.inr; simp [FRes.clean, cleanMuts, Hand.clean, clean_val, D.imm, imms, oLst_clean_ints, oLst_clean_words, oLst_clean_pairs, wD_imm, pD_imm, List.all])), _, (by repeat (first | exact Puts.n | exact Put.zL | exact Put.zP | apply Put.s | apply Puts.f | apply Puts.t | apply Puts.o)), ?_⟩)
  repeat' done
  apply callQ_go
  · repeat (first | exact Args.n | apply Args.fv | apply Args.t rfl | apply Args.f (RD.b rfl).eq | apply Args.f RD.ol.eq | apply Args.f rfl)
  · first | exact rfl | simp [okSlots, mutSlots, borSlots]
  refine (some_fs h fun bs h b2 b18 bl => ⟨(by first | exact Or.inl rfl | exact Or.inr rfl | (apply Or.inr; simp [FRes.clean, cleanMuts, Hand.clean, clean_val, D.imm, imms, oLst_clean_ints, oLst_clean_words, oLst_clean_pairs, wD_imm, pD_imm, List.all])), _, (by repeat (first | exact Puts.n | exact Put.zL | exact Put.zP | apply Put.s | apply Puts.f | apply Puts.t | apply Puts.o)), ?_⟩)
  repeat' done
  refine compQ_TH (β := List (List Int)) (fun h => [.loc (.val (.scr ns)), .loc h.o, .loc (oLst (bs.map .int)), .no, .no, .no, .no, .no, .no, .no, .no, .no, .no]) (fun h => [.loc (.val (.scr ns)), .loc h.o, .loc (oLst (bs.map .int)), .no, .no, .no, .no, .no, .no, .no, .no, .no, .no]) (xs := List.range 2) (fun k : Nat => D.int (0 + k)) (fun ws => oLst (ws.map wD)) (fun _ ws => WG ws) (fun h => .c .n (by repeat (first | exact Upd.zL | exact Upd.zN | exact Upd.zA (by assumption) | apply Upd.s))) (fun h h' => .c rfl .n (by repeat (first | exact Upd.zL | exact Upd.zN | exact Upd.zA (by assumption) | apply Upd.s))) (by decide) (fun d hd h => ?_) fun wss h hl2 hy => ?_
  · refine ⟨_, .name (by repeat (first | exact Upd.zL | exact Upd.zN | exact Upd.zA (by assumption) | apply Upd.s)), ?_⟩
    repeat' done
    apply callQ_go
    · repeat (first | exact Args.n | apply Args.fv | apply Args.t rfl | apply Args.f (RD.b rfl).eq | apply Args.f RD.ol.eq | apply Args.f rfl)
    · first | exact rfl | simp [okSlots, mutSlots, borSlots]
    refine (leaves_fs h bs b2 b18 bl fun ws h' hw hp hl => ⟨(by first | exact Or.inl rfl | exact Or.inr rfl | (apply Or.inr; simp [FRes.clean, cleanMuts, Hand.clean, clean_val, D.imm, imms, oLst_clean_ints, oLst_clean_words, oLst_clean_pairs, wD_imm, pD_imm, List.all])), _, (by repeat (first | exact Puts.n | exact Put.zL | exact Put.zP | apply Put.s | apply Puts.f | apply Puts.t | apply Puts.o)), ?_⟩)
    exact ⟨ws, h', rfl, ⟨fun w h => ⟨hw.ne w h, hw.le w h, fun b hb => bl.2 b (hw.by_ w h b hb)⟩, hp, hl⟩, .c .n (by repeat (first | exact Upd.zL | exact Upd.zN | exact Upd.zA (by assumption) | apply Upd.s))⟩
  obtain ⟨w1, w2, rfl, z1, z2⟩ := two_items hl2
  have g1 := hy 0 0 _ rfl z1
  have g2 := hy 1 1 _ rfl z2
  repeat' done
  refine Ops_ixA (os := [oLst (w1.map wD), oLst (w2.map wD)]) (o := oLst (w1.map wD)) rfl rfl (by repeat (first | exact Upd.zL | exact Upd.zN | exact Upd.zA (by assumption) | apply Upd.s)) ?_
  have e1 : ([oLst (w1.map wD), oLst (w2.map wD)].map fun o => O.val o.data) = (words2 w1 w2).map .val := by simp [words2, oLst_data]
  rw [e1, oLst_data]
  repeat' done
  rename_i r4 h4 hr40 hr41
  rw [List.length_map, List.length_map]
  have l1 := g1.len
  have l2 := g2.len
  have m0 : (w1.length : Int) ≤ (if (w2.length : Int) > w1.length then (w2.length : Int) else w1.length) + r4 := by split <;> omega
  have m1 : (w2.length : Int) ≤ (if (w2.length : Int) > w1.length then (w2.length : Int) else w1.length) + r4 := by split <;> omega
  have m2 : (if (w2.length : Int) > w1.length then (w2.length : Int) else w1.length) + r4 ≤ 30 := by split <;> omega
  generalize (if (w2.length : Int) > w1.length then (w2.length : Int) else w1.length) + r4 = mm at *
  apply callQ_go
  · repeat (first | exact Args.n | apply Args.fv | apply Args.t rfl | apply Args.f (RD.b rfl).eq | apply Args.f RD.ol.eq | apply Args.f rfl)
  · first | exact rfl | simp [okSlots, mutSlots, borSlots]
  refine (signs_fs h4 mm (by omega) m2 fun ss h hs1 hs2 => ⟨(by first | exact Or.inl rfl | exact Or.inr rfl | (apply Or.inr; simp [FRes.clean, cleanMuts, Hand.clean, clean_val, D.imm, imms, oLst_clean_ints, oLst_clean_words, oLst_clean_pairs, wD_imm, pD_imm, List.all])), _, (by repeat (first | exact Puts.n | exact Put.zL | exact Put.zP | apply Put.s | apply Puts.f | apply Puts.t | apply Puts.o)), ?_⟩)
  repeat' done
  refine compQ_TH (β := List (Int × List Int)) (fun h => [.loc (.val (.scr ns)), .loc h.o, .loc (oLst (bs.map .int)), .loc (.val (.lst (words2 w1 w2))), .loc (oLst (ss.map .int)), .no, .no, .no, .no, .no, .no, .no, .no]) (fun h => [.loc (.val (.scr ns)), .loc h.o, .loc (oLst (bs.map .int)), .loc (.val (.lst (words2 w1 w2))), .loc (oLst (ss.map .int)), .no, .no, .no, .no, .no, .no, .no, .no]) (xs := [w1, w2]) (fun ws => D.lst (ws.map wD)) (fun ps => codeO (byWord ps) (byWord ps)) (fun ws ps => Good ps ∧ (ps.map (·.2)).Perm ws) (fun h => .c .n (by repeat (first | exact Upd.zL | exact Upd.zN | exact Upd.zA (by assumption) | apply Upd.s))) (fun h h' => .c rfl .n (by repeat (first | exact Upd.zL | exact Upd.zN | exact Upd.zA (by assumption) | apply Upd.s))) (Nat.le_of_ble_eq_true rfl) (fun ws hws h => ?_) fun pss h hl2 hy => ?_
  · have hg : WG ws ∧ ws.length ≤ ss.length := by
      simp only [List.mem_cons, List.not_mem_nil, or_false] at hws
      rcases hws with rfl | rfl
      · exact ⟨g1, by omega⟩
      · exact ⟨g2, by omega⟩
    refine ⟨_, .name (by repeat (first | exact Upd.zL | exact Upd.zN | exact Upd.zA (by assumption) | apply Upd.s)), ?_⟩
    repeat' done
    apply callQ_go
    · repeat (first | exact Args.n | apply Args.fv | apply Args.t rfl | apply Args.f (RD.b rfl).eq | apply Args.f RD.ol.eq | apply Args.f rfl)
    · first | exact rfl | simp [okSlots, mutSlots, borSlots]
    refine (table_fs h ws ss hg.1.bw hg.1.pf hs2.1 hg.2 (by omega) fun ps h' gp pm => ⟨(by first | exact Or.inl rfl | exact Or.inr rfl | (apply Or.inr; simp [FRes.clean, cleanMuts, Hand.clean, clean_val, D.imm, imms, oLst_clean_ints, oLst_clean_words, oLst_clean_pairs, wD_imm, pD_imm, List.all])), _, (by repeat (first | exact Puts.n | exact Put.zL | exact Put.zP | apply Put.s | apply Puts.f | apply Puts.t | apply Puts.o)), ?_⟩)
    repeat' done
    have lps : ps.length ≤ 24 := by
      have := pm.length_eq
      rw [List.length_map] at this
      rw [this]; exact hg.1.len
    apply callQ_go
    · repeat (first | exact Args.n | apply Args.fv | apply Args.t rfl | apply Args.f (RD.b rfl).eq | apply Args.f RD.ol.eq | apply Args.f rfl)
    · first | exact rfl | simp [okSlots, mutSlots, borSlots]
    refine (FS_mk (init_fs ps gp (by omega) ⟨rfl, _, _, rfl, ⟨(by first | exact Or.inl rfl | exact Or.inr rfl | (apply Or.inr; simp [FRes.clean, cleanMuts, Hand.clean, clean_val, D.imm, imms, oLst_clean_ints, oLst_clean_words, oLst_clean_pairs, wD_imm, pD_imm, List.all])), _, (by repeat (first | exact Puts.n | exact Put.zL | exact Put.zP | apply Put.s | apply Puts.f | apply Puts.t | apply Puts.o)), ?_⟩⟩))
    exact ⟨ps, h', rfl, ⟨gp, pm⟩, .c .n (by repeat (first | exact Upd.zL | exact Upd.zN | exact Upd.zA (by assumption) | apply Upd.s))⟩
  obtain ⟨p1, p2, rfl, z1, z2⟩ := two_items hl2
  obtain ⟨gp1, pm1⟩ := hy 0 _ _ rfl z1
  obtain ⟨gp2, pm2⟩ := hy 1 _ _ rfl z2
  repeat' done
  refine Wp_forR0 (by split <;> omega) (fun _ e => ∃ (h : Hand) (os : List O) (c6 c7 c8 c9 c10 c11 : Cell), datas os = codes2 p1 p2 ∧ LN c6 ∧ LN c7 ∧ LN c8 ∧ LN c9 ∧ LN c10 ∧ LN c11 ∧ e = [.loc (.val (.scr ns)), .loc h.o, .loc (oLst (bs.map .int)), .loc (.val (.lst (words2 w1 w2))), .loc (oLst (ss.map .int)), .loc (.lst os), c6, c7, c8, c9, c10, c11, .no]) (fun k e hk0 hk1 hI => ?_) (fun e hI => ?_) ⟨h, _, _, _, _, _, _, _, ?_, (by exact True.intro), (by exact True.intro), (by exact True.intro), (by exact True.intro), (by exact True.intro), (by exact True.intro), rfl⟩
  · obtain ⟨h, os, c6, c7, c8, c9, c10, c11, hos, h6, h7, h8, h9, h10, h11, rfl⟩ := hI
    refine ⟨_, .name (by repeat (first | exact Upd.zL | exact Upd.zN | exact Upd.zA (by assumption) | apply Upd.s)), ?_⟩
    exact law_b2 ns bs ss b2 b18 w1 w2 g1 g2 p1 p2 gp1 gp2 pm1 pm2 h os hos k (by omega) _ _ _ _ _ h7 h8 h9 h10 h11 fun h c7 os c8 c9 c10 c11 a b c d e f => for_nx ⟨h, os, _, _, _, _, _, _, a, (by exact True.intro), b, c, d, e, f, rfl⟩
  · obtain ⟨h, os, c6, c7, c8, c9, c10, c11, hos, h6, h7, h8, h9, h10, h11, rfl⟩ := hI
    refine seq_nx ?_
    unfold code_law_r3
    repeat' done
    exact q
  · simp only [List.map_cons, List.map_nil, datas, codeO_data, codes2]
theorem plain (ns : List Int) : ∃ os', sem_law [.val (.scr ns)] = some (.ret (.val (.bl true)) os') := by
  obtain ⟨x, os', h, hx⟩ := FS_some (Q := fun x _ => x = .val (.bl true)) (law_fs ns rfl)
  exact ⟨os', by rw [h, hx]⟩
end VS.K16
namespace VS.K16
open PySem PySem.Spec PyProof.Rows L2 VS
def top (i : Nat) : Stmt := PySem.Challenge.pw_skewread_k16_live_beginnings.main.body.getD i (.Pass ⟨0, 0, 0, 0⟩)
def tbN : List (List Nat) := [[67, 111, 100, 101], [114, 101, 97, 100, 105, 110, 103, 115], [112, 97, 105, 114, 115], [119, 111, 114, 100, 115], [108, 105, 118, 101], [116, 97, 98, 108, 101], [115, 105, 103, 110, 115], [119, 111, 114, 100], [115, 105, 103, 110], [108, 111, 110, 103, 101, 115, 116], [115, 97, 109, 101], [82, 101, 97, 100, 101, 114], [98, 111, 111, 107], [119, 97, 105, 116, 105, 110, 103], [102, 101, 101, 100], [102, 105, 110, 105, 115, 104], [104, 101, 108, 100], [116, 119, 105, 110], [108, 97, 121], [115, 119, 97, 121, 105, 110, 103], [97, 112, 97, 114, 116]]
def nm : Nat → Str := nmOf tbN
theorem nm_one : ∀ n, OneN nm n := nmOf_one (by decide +kernel) (by decide +kernel)
abbrev s_at_odds : Stmt := top 6
def N_at_odds : List Str := ["one", "other", "size"]
theorem sc_at_odds : FnScope N_at_odds ["one", "other"] (defScope s_at_odds) := ⟨rfl, rfl, rfl, by decide +kernel, rfl, by decide +kernel, by decide +kernel⟩
def d_at_odds : He.DefD := ⟨("at_odds", none), "at_odds", "at_odds", defArgs s_at_odds, defBody s_at_odds, defScope s_at_odds, [], []⟩
abbrev s_by_word : Stmt := top 8
def N_by_word : List Str := ["pair"]
theorem sc_by_word : FnScope N_by_word ["pair"] (defScope s_by_word) := ⟨rfl, rfl, rfl, by decide +kernel, rfl, by decide +kernel, by decide +kernel⟩
def d_by_word : He.DefD := ⟨("by_word", none), "by_word", "by_word", defArgs s_by_word, defBody s_by_word, defScope s_by_word, [], []⟩
abbrev s_Code_live : Stmt := (clsBody (top 9)).getD 7 (.Pass ⟨0, 0, 0, 0⟩)
def N_Code_live : List Str := ["self", "row", "some", "word"]
theorem sc_Code_live : FnScope N_Code_live ["self", "row"] (defScope s_Code_live) := ⟨rfl, rfl, rfl, by decide +kernel, rfl, by decide +kernel, by decide +kernel⟩
def d_Code_live : He.DefD := ⟨("Code", some "live"), "live", "Code.live", defArgs s_Code_live, defBody s_Code_live, defScope s_Code_live, [], []⟩
abbrev s_law_open : Stmt := top 11
def N_law_open : List Str := ["_law_script", "_law_place", "_law_cells", "_law_at", "_law_digits", "_law_cell"]
theorem sc_law_open : FnScope N_law_open ["_law_script", "_law_place"] (defScope s_law_open) := ⟨rfl, rfl, rfl, by decide +kernel, rfl, by decide +kernel, by decide +kernel⟩
def d_law_open : He.DefD := ⟨("_law_open", none), "_law_open", "_law_open", defArgs s_law_open, defBody s_law_open, defScope s_law_open, [], []⟩
abbrev s_law_draw : Stmt := top 12
def N_law_draw : List Str := ["_law_hand", "_law_many", "_law_cell", "_law_number", "_law_got"]
theorem sc_law_draw : FnScope N_law_draw ["_law_hand", "_law_many"] (defScope s_law_draw) := ⟨rfl, rfl, rfl, by decide +kernel, rfl, by decide +kernel, by decide +kernel⟩
def d_law_draw : He.DefD := ⟨("_law_draw", none), "_law_draw", "_law_draw", defArgs s_law_draw, defBody s_law_draw, defScope s_law_draw, [], []⟩
abbrev s_law_due : Stmt := top 20
def N_law_due : List Str := ["_law_words_here", "_law_row_here", "_law_word", "_law_k"]
theorem sc_law_due : FnScope N_law_due ["_law_words_here", "_law_row_here"] (defScope s_law_due) := ⟨rfl, rfl, rfl, by decide +kernel, rfl, by decide +kernel, by decide +kernel⟩
def d_law_due : He.DefD := ⟨("_law_due", none), "_law_due", "_law_due", defArgs s_law_due, defBody s_law_due, defScope s_law_due, [], []⟩
abbrev s_fault : Stmt := top 7
def N_fault : List Str := ["table", "j", "i", "word"]
theorem sc_fault : FnScope N_fault ["table"] (defScope s_fault) := ⟨rfl, rfl, rfl, by decide +kernel, rfl, by decide +kernel, by decide +kernel⟩
def d_fault : He.DefD := ⟨("fault", none), "fault", "fault", defArgs s_fault, defBody s_fault, defScope s_fault, [], []⟩
abbrev s_law_bytes : Stmt := top 13
def N_law_bytes : List Str := ["_law_hand", "_law_most", "_law_begin", "_law_step", "_law_k"]
theorem sc_law_bytes : FnScope N_law_bytes ["_law_hand", "_law_most"] (defScope s_law_bytes) := ⟨rfl, rfl, rfl, by decide +kernel, rfl, by decide +kernel, by decide +kernel⟩
def d_law_bytes : He.DefD := ⟨("_law_bytes", none), "_law_bytes", "_law_bytes", defArgs s_law_bytes, defBody s_law_bytes, defScope s_law_bytes, [], []⟩
abbrev s_law_words : Stmt := top 14
def N_law_words : List Str := ["_law_hand", "_law_some_here", "_law_most", "_law_longest", "_law_words_here", "_law_k", "_law_at", "_law_one", "_law_word"]
theorem sc_law_words : FnScope N_law_words ["_law_hand", "_law_some_here", "_law_most", "_law_longest"] (defScope s_law_words) := ⟨rfl, rfl, rfl, by decide +kernel, rfl, by decide +kernel, by decide +kernel⟩
def d_law_words : He.DefD := ⟨("_law_words", none), "_law_words", "_law_words", defArgs s_law_words, defBody s_law_words, defScope s_law_words, [], []⟩
abbrev s_law_signs : Stmt := top 17
def N_law_signs : List Str := ["_law_hand", "_law_many", "_law_begin", "_law_step", "_law_signs_here", "_law_at", "_law_k"]
theorem sc_law_signs : FnScope N_law_signs ["_law_hand", "_law_many"] (defScope s_law_signs) := ⟨rfl, rfl, rfl, by decide +kernel, rfl, by decide +kernel, by decide +kernel⟩
def d_law_signs : He.DefD := ⟨("_law_signs", none), "_law_signs", "_law_signs", defArgs s_law_signs, defBody s_law_signs, defScope s_law_signs, [], []⟩
abbrev s_law_table : Stmt := top 18
def N_law_table : List Str := ["_law_hand", "_law_words_here", "_law_signs_here", "_law_at", "_law_spun", "_law_pairs", "_law_k"]
theorem sc_law_table : FnScope N_law_table ["_law_hand", "_law_words_here", "_law_signs_here"] (defScope s_law_table) := ⟨rfl, rfl, rfl, by decide +kernel, rfl, by decide +kernel, by decide +kernel⟩
def d_law_table : He.DefD := ⟨("_law_table", none), "_law_table", "_law_table", defArgs s_law_table, defBody s_law_table, defScope s_law_table, [], []⟩
abbrev s_law_row : Stmt := top 19
def N_law_row : List Str := ["_law_hand", "_law_some_here", "_law_words_here", "_law_way", "_law_word", "_law_row_here", "_law_k"]
theorem sc_law_row : FnScope N_law_row ["_law_hand", "_law_some_here", "_law_words_here"] (defScope s_law_row) := ⟨rfl, rfl, rfl, by decide +kernel, rfl, by decide +kernel, by decide +kernel⟩
def d_law_row : He.DefD := ⟨("_law_row", none), "_law_row", "_law_row", defArgs s_law_row, defBody s_law_row, defScope s_law_row, [], []⟩
abbrev s_Code___init__ : Stmt := (clsBody (top 9)).getD 0 (.Pass ⟨0, 0, 0, 0⟩)
def N_Code___init__ : List Str := ["self", "table", "found", "sign", "word"]
theorem sc_Code___init__ : FnScope N_Code___init__ ["self", "table"] (defScope s_Code___init__) := ⟨rfl, rfl, rfl, by decide +kernel, rfl, by decide +kernel, by decide +kernel⟩
def d_Code___init__ : He.DefD := ⟨("Code", some "__init__"), "__init__", "Code.__init__", defArgs s_Code___init__, defBody s_Code___init__, defScope s_Code___init__, [], []⟩
abbrev s_law_some : Stmt := top 15
def N_law_some : List Str := ["_law_hand", "_law_some_here", "_law_k"]
theorem sc_law_some : FnScope N_law_some ["_law_hand"] (defScope s_law_some) := ⟨rfl, rfl, rfl, by decide +kernel, rfl, by decide +kernel, by decide +kernel⟩
def d_law_some : He.DefD := ⟨("_law_some", none), "_law_some", "_law_some", defArgs s_law_some, defBody s_law_some, defScope s_law_some, [], []⟩
abbrev s_law_leaves : Stmt := top 16
def N_law_leaves : List Str := ["_law_hand", "_law_some_here"]
theorem sc_law_leaves : FnScope N_law_leaves ["_law_hand", "_law_some_here"] (defScope s_law_leaves) := ⟨rfl, rfl, rfl, by decide +kernel, rfl, by decide +kernel, by decide +kernel⟩
def d_law_leaves : He.DefD := ⟨("_law_leaves", none), "_law_leaves", "_law_leaves", defArgs s_law_leaves, defBody s_law_leaves, defScope s_law_leaves, [], []⟩
abbrev s_law : Stmt := top 21
def N_law : List Str := ["_law_script", "_law_hand", "_law_some_here", "_law_words_here", "_law_signs_here", "_law_codes", "_law_place", "_law_row_here", "_law_first", "_law_k", "_law_handed", "_law_found", "_law_one"]
theorem sc_law : FnScope N_law ["_law_script"] (defScope s_law) := ⟨rfl, rfl, rfl, by decide +kernel, rfl, by decide +kernel, by decide +kernel⟩
def d_law : He.DefD := ⟨("law", none), "law", "law", defArgs s_law, defBody s_law, defScope s_law, [], []⟩
def fn : List He.DefD := [d_at_odds, d_fault, d_by_word, d_Code___init__, d_Code_live, d_law_open, d_law_draw, d_law_bytes, d_law_words, d_law_some, d_law_leaves, d_law_signs, d_law_table, d_law_row, d_law_due, d_law]
def lf : List He.Fa := [.free "len", .free "min", .free "tuple", .glo "Code", .cls "Code", .noat "Code" "readings", .free "any", .free "abs", .free "range", .free "all", .glo "at_odds", .glo "_law_draw", .free "int", .free "max", .free "list", .glo "fault", .free "sorted", .glo "by_word", .noat "Code" "pairs", .noat "Code" "words", .glo "_law_bytes", .glo "_law_words", .glo "_law_open", .glo "_law_some", .glo "_law_leaves", .glo "_law_signs", .glo "_law_table", .mkr "Code", .glo "_law_row", .meth "Code" "live", .free "isinstance", .free "bool", .glo "_law_due", .glo "law"]
section
variable {P : Program} {w : World} {K : PySem.W.Frag} {mg : Str → Option Value} {base : Heap}
theorem okf_at_odds (T : Tx lf fn K mg) {fd : FuncData} (F : FunD K "at_odds" "at_odds" (defArgs s_at_odds) (defBody s_at_odds) (defScope s_at_odds) [] [] (He.ga K "at_odds") fd) : CalleeF P w K mg base 1 (He.ga K "at_odds") fd ["one", "other"] [false, false] nm sem_at_odds := by
  refine v_fnD F sc_at_odds rfl rfl (fun _ _ _ _ _ _ us hl => match us, hl with | [_, _], _ => rfl) fun cdv A outer s H E hr => ?_
  have tk := takes_of (X := cxOf (CX P w) P w K mg base N_at_odds "at_odds" (defScope s_at_odds) (He.ga K "at_odds") cdv A outer s H E) (E := E) rfl rfl rfl rfl
  have hp := passes_of (X := cxOf (CX P w) P w K mg base N_at_odds "at_odds" (defScope s_at_odds) (He.ga K "at_odds") cdv A outer s H E) rfl
  exact vs_cons (vs_if (t_eq rfl hr (v_ixG2 rfl (v_var (pv 0)) (v_int) (fun _ _ => rfl)) (v_ixG2 rfl (v_var (pv 1)) (v_int) (fun _ _ => rfl))) (vs_one (vs_ret (v_str (s := [116, 119, 105, 99, 101])))) (vs_nil)) (vs_cons (vs_set (i := 2) sc_at_odds.nd rfl (by first | exact Or.inl rfl | exact Or.inr rfl) (v_min2 rfl rfl (T.free 1) (a2 (v_len rfl rfl (T.free 0) (a1 (v_ixG2 rfl (v_var (pv 0)) (v_int) (fun _ _ => rfl)))) (v_len rfl rfl (T.free 0) (a1 (v_ixG2 rfl (v_var (pv 1)) (v_int) (fun _ _ => rfl))))))) (vs_cons (vs_if (t_eq rfl hr (v_slice rfl (v_ixG2 rfl (v_var (pv 0)) (v_int) (fun _ _ => rfl)) v_nopart (v_part (v_var (pv 2)))) (v_slice rfl (v_ixG2 rfl (v_var (pv 1)) (v_int) (fun _ _ => rfl)) v_nopart (v_part (v_var (pv 2))))) (vs_one (vs_ret (v_str (s := [98, 101, 103, 105, 110, 115])))) (vs_nil)) (vs_one (vs_ret (v_non)))))
theorem ok_at_odds (T : Tx lf fn K mg) : Callee P w K mg base 1 (He.ga K "at_odds") ["one", "other"] [false, false] nm sem_at_odds := by
  obtain ⟨fd, F⟩ := T.says.def_ 0 (d := d_at_odds) rfl
  exact ⟨fd, okf_at_odds T F⟩
theorem okf_by_word (T : Tx lf fn K mg) {fd : FuncData} (F : FunD K "by_word" "by_word" (defArgs s_by_word) (defBody s_by_word) (defScope s_by_word) [] [] (He.ga K "by_word") fd) : CalleeF P w K mg base 1 (He.ga K "by_word") fd ["pair"] [false] nm sem_by_word := by
  refine v_fnD F sc_by_word rfl rfl (fun _ _ _ _ _ _ us hl => match us, hl with | [_], _ => rfl) fun cdv A outer s H E hr => ?_
  have tk := takes_of (X := cxOf (CX P w) P w K mg base N_by_word "by_word" (defScope s_by_word) (He.ga K "by_word") cdv A outer s H E) (E := E) rfl rfl rfl rfl
  have hp := passes_of (X := cxOf (CX P w) P w K mg base N_by_word "by_word" (defScope s_by_word) (He.ga K "by_word") cdv A outer s H E) rfl
  exact vs_one (vs_ret (v_ixG2 rfl (v_var (pv 0)) (v_int) (fun _ _ => rfl)))
theorem ok_by_word (T : Tx lf fn K mg) : Callee P w K mg base 1 (He.ga K "by_word") ["pair"] [false] nm sem_by_word := by
  obtain ⟨fd, F⟩ := T.says.def_ 2 (d := d_by_word) rfl
  exact ⟨fd, okf_by_word T F⟩
theorem kd_by_word (T : Tx lf fn K mg) : KeyDef P w K (He.ga K "by_word") := by
  obtain ⟨fd, F⟩ := T.says.def_ 2 (d := d_by_word) rfl
  exact keyDef_of F rfl sc_by_word (by decide +kernel) (by decide) (fun _ _ _ _ _ _ us hl => match us, hl with | [_], _ => rfl)
theorem okf_Code_live (T : Tx lf fn K mg) {fd : FuncData} (F : FunD K "live" "Code.live" (defArgs s_Code_live) (defBody s_Code_live) (defScope s_Code_live) [] [] (He.ma K (He.ga K "Code") "live") fd) : CalleeF P w K mg base 1 (He.ma K (He.ga K "Code") "live") fd ["self", "row"] [false, false] nm sem_Code_live := by
  refine v_fnD F sc_Code_live rfl rfl (fun _ _ _ _ _ _ us hl => match us, hl with | [_, _], _ => rfl) fun cdv A outer s H E hr => ?_
  have tk := takes_of (X := cxOf (CX P w) P w K mg base N_Code_live "Code.live" (defScope s_Code_live) (He.ma K (He.ga K "Code") "live") cdv A outer s H E) (E := E) rfl rfl rfl rfl
  have hp := passes_of (X := cxOf (CX P w) P w K mg base N_Code_live "Code.live" (defScope s_Code_live) (He.ma K (He.ga K "Code") "live") cdv A outer s H E) rfl
  exact vs_cons (vs_set (i := 2) sc_Code_live.nd rfl (by first | exact Or.inl rfl | exact Or.inr rfl) (v_tupleC rfl rfl (T.free 2) (a1 (v_var (pv 1))))) (vs_one (vs_ret (v_any rfl rfl rfl (T.free 6) (a1 (v_compK (own := [("word", 3)]) (t := .name 3) (T.at_ nm_one 3 4 5 (x := "Code") (f := "readings") (cn := 0) (n := 1) (by decide +kernel) (by decide +kernel)) rfl (show ("readings" : Str) = nm 1 by decide +kernel) (pv 0) rfl rfl sc_Code_live.nd (blkOk_by (N := N_Code_live) (sc := (defScope s_Code_live)) (by decide +kernel)) (tg_name) (by decide) (fun _ _ _ _ _ => pg_name (i := 3) sc_Code_live.nd rfl (by first | exact Or.inl rfl | exact Or.inr rfl) (by first | exact Or.inl rfl | exact Or.inr rfl)) (fun _ _ _ _ _ => pts_yes) (fun _ _ _ _ _ => v_andV (v_lt (v_len rfl rfl (T.free 0) (a1 (v_var (pv 2)))) (v_len rfl rfl (T.free 0) (a1 (v_var (pv 3))))) (pe_one (v_eq rfl hr (v_slice rfl (v_var (pv 3)) v_nopart (v_part (v_len rfl rfl (T.free 0) (a1 (v_var (pv 2)))))) (v_var (pv 2))))))))))
theorem ok_Code_live (T : Tx lf fn K mg) : Callee P w K mg base 1 (He.ma K (He.ga K "Code") "live") ["self", "row"] [false, false] nm sem_Code_live := by
  obtain ⟨fd, F⟩ := T.says.def_ 4 (d := d_Code_live) rfl
  exact ⟨fd, okf_Code_live T F⟩
theorem okf_law_open (T : Tx lf fn K mg) {fd : FuncData} (F : FunD K "_law_open" "_law_open" (defArgs s_law_open) (defBody s_law_open) (defScope s_law_open) [] [] (He.ga K "_law_open") fd) : CalleeF P w K mg base 1 (He.ga K "_law_open") fd ["_law_script", "_law_place"] [false, false] nm sem_law_open := by
  refine v_fnD F sc_law_open rfl rfl (fun _ _ _ _ _ _ us hl => match us, hl with | [_, _], _ => rfl) fun cdv A outer s H E hr => ?_
  have tk := takes_of (X := cxOf (CX P w) P w K mg base N_law_open "_law_open" (defScope s_law_open) (He.ga K "_law_open") cdv A outer s H E) (E := E) rfl rfl rfl rfl
  have hp := passes_of (X := cxOf (CX P w) P w K mg base N_law_open "_law_open" (defScope s_law_open) (He.ga K "_law_open") cdv A outer s H E) rfl
  exact vs_cons (vs_setComp (i := 2) (own := [("_law_cell", 5)]) (t := .name 5) rfl rfl sc_law_open.nd rfl rfl (sw_true rfl rfl rfl (by decide +kernel)) (w_any rfl (v_slice rfl (v_var (pv 0)) v_nopart (v_part (v_int)))) (blkOk_by (N := N_law_open) (sc := (defScope s_law_open)) (by decide +kernel)) (tg_name) (by decide) (fun _ _ _ _ _ => pg_name (i := 5) sc_law_open.nd rfl (by first | exact Or.inl rfl | exact Or.inr rfl) (by first | exact Or.inl rfl | exact Or.inr rfl)) (fun _ _ _ _ _ => pts_yes) (fun _ _ _ _ _ => v_abs rfl (T.free 7) (a1 (v_var (pv 5))))) (vs_cons (vs_if (t_eq rfl hr (v_var (pv 2)) (v_lst (v_nil))) (vs_one (vs_set (i := 2) sc_law_open.nd rfl (by first | exact Or.inl rfl | exact Or.inr rfl) (v_lst (v_cons (v_int) (v_nil))))) (vs_nil)) (vs_cons (vs_set (i := 3) sc_law_open.nd rfl (by first | exact Or.inl rfl | exact Or.inr rfl) (v_mod (v_var (pv 1)) (v_len rfl rfl (T.free 0) (a1 (v_var (pv 2)))))) (vs_cons (vs_set (i := 4) sc_law_open.nd rfl (by first | exact Or.inl rfl | exact Or.inr rfl) (v_int)) (vs_cons (vs_if (PW.pt (v_and (t_ge (v_ixG2 rfl (v_var (pv 2)) (v_var (pv 3)) (fun _ _ => rfl)) (v_pow (v_int) (v_int))) (pw_and1 (t_lt (v_var (pv 1)) (v_len rfl rfl (T.free 0) (a1 (v_var (pv 2)))))))) (vs_one (vs_set (i := 4) sc_law_open.nd rfl (by first | exact Or.inl rfl | exact Or.inr rfl) (v_ixG2 rfl (v_var (pv 2)) (v_var (pv 3)) (fun _ _ => rfl)))) (vs_nil)) (vs_one (vs_ret (v_lst (v_cons (v_var (pv 4)) (v_cons (v_add rfl (v_int) (v_mul (v_int) (v_var (pv 1)))) (v_cons (v_add rfl (v_slice rfl (v_var (pv 2)) (v_part (v_var (pv 3))) v_nopart) (v_slice rfl (v_var (pv 2)) v_nopart (v_part (v_var (pv 3))))) (v_nil)))))))))))
theorem ok_law_open (T : Tx lf fn K mg) : Callee P w K mg base 1 (He.ga K "_law_open") ["_law_script", "_law_place"] [false, false] nm sem_law_open := by
  obtain ⟨fd, F⟩ := T.says.def_ 5 (d := d_law_open) rfl
  exact ⟨fd, okf_law_open T F⟩
theorem okf_law_draw (T : Tx lf fn K mg) {fd : FuncData} (F : FunD K "_law_draw" "_law_draw" (defArgs s_law_draw) (defBody s_law_draw) (defScope s_law_draw) [] [] (He.ga K "_law_draw") fd) : CalleeF P w K mg base 1 (He.ga K "_law_draw") fd ["_law_hand", "_law_many"] [true, false] nm sem_law_draw := by
  refine v_fnD F sc_law_draw rfl rfl (fun _ _ _ _ _ _ us hl => match us, hl with | [_, _], _ => rfl) fun cdv A outer s H E hr => ?_
  have tk := takes_of (X := cxOf (CX P w) P w K mg base N_law_draw "_law_draw" (defScope s_law_draw) (He.ga K "_law_draw") cdv A outer s H E) (E := E) rfl rfl rfl rfl
  have hp := passes_of (X := cxOf (CX P w) P w K mg base N_law_draw "_law_draw" (defScope s_law_draw) (He.ga K "_law_draw") cdv A outer s H E) rfl
  exact vs_cons (vs_if (t_gt (v_pure (rd_ix rfl (rd_var (pv 0)) (rd_int) (fun _ _ => rfl))) (v_int)) (vs_cons (vs_set (i := 4) sc_law_draw.nd rfl (by first | exact Or.inl rfl | exact Or.inr rfl) (v_mod (v_pure (rd_ix rfl (rd_var (pv 0)) (rd_int) (fun _ _ => rfl))) (v_var (pv 1)))) (vs_cons (vs_setIx (i := 0) (pv 0) (v_int) (v_div (v_pure (rd_ix rfl (rd_var (pv 0)) (rd_int) (fun _ _ => rfl))) (v_var (pv 1))) (fun _ _ h h2 => pg_sub h h2 set_list)) (vs_one (vs_ret (v_var (pv 4)))))) (vs_nil)) (vs_cons (vs_augIx (i := 0) aug_addI (pv 0) (v_int) (v_int) ip_add) (vs_cons (vs_set (i := 2) sc_law_draw.nd rfl (by first | exact Or.inl rfl | exact Or.inr rfl) (v_mod (v_pure (rd_ix rfl (rd_ix rfl (rd_var (pv 0)) (rd_int) (fun _ _ => rfl)) (rd_mod (rd_ix rfl (rd_var (pv 0)) (rd_int) (fun _ _ => rfl)) (rd_len rfl rfl (T.free 0) (rd_ix rfl (rd_var (pv 0)) (rd_int) (fun _ _ => rfl)))) (fun _ _ => rfl))) (v_int))) (vs_cons (vs_set (i := 3) sc_law_draw.nd rfl (by first | exact Or.inl rfl | exact Or.inr rfl) (v_mod (v_add rfl (v_add rfl (v_mul (v_var (pv 2)) (v_int)) (v_mul (v_pure (rd_ix rfl (rd_var (pv 0)) (rd_int) (fun _ _ => rfl))) (v_int))) (v_int)) (v_int))) (vs_cons (vs_set (i := 3) sc_law_draw.nd rfl (by first | exact Or.inl rfl | exact Or.inr rfl) (v_mod (v_add rfl (v_mul (v_var (pv 3)) (v_var (pv 3))) (v_pure (rd_ix rfl (rd_var (pv 0)) (rd_int) (fun _ _ => rfl)))) (v_int))) (vs_cons (vs_set (i := 3) sc_law_draw.nd rfl (by first | exact Or.inl rfl | exact Or.inr rfl) (v_mod (v_add rfl (v_mul (v_var (pv 3)) (v_int)) (v_int)) (v_int))) (vs_one (vs_ret (v_mod (v_div (v_mod (v_mul (v_var (pv 3)) (v_var (pv 3))) (v_int)) (v_int)) (v_var (pv 1))))))))))
theorem ok_law_draw (T : Tx lf fn K mg) : Callee P w K mg base 1 (He.ga K "_law_draw") ["_law_hand", "_law_many"] [true, false] nm sem_law_draw := by
  obtain ⟨fd, F⟩ := T.says.def_ 6 (d := d_law_draw) rfl
  exact ⟨fd, okf_law_draw T F⟩
theorem okf_law_due (T : Tx lf fn K mg) {fd : FuncData} (F : FunD K "_law_due" "_law_due" (defArgs s_law_due) (defBody s_law_due) (defScope s_law_due) [] [] (He.ga K "_law_due") fd) : CalleeF P w K mg base 1 (He.ga K "_law_due") fd ["_law_words_here", "_law_row_here"] [false, false] nm sem_law_due := by
  refine v_fnD F sc_law_due rfl rfl (fun _ _ _ _ _ _ us hl => match us, hl with | [_, _], _ => rfl) fun cdv A outer s H E hr => ?_
  have tk := takes_of (X := cxOf (CX P w) P w K mg base N_law_due "_law_due" (defScope s_law_due) (He.ga K "_law_due") cdv A outer s H E) (E := E) rfl rfl rfl rfl
  have hp := passes_of (X := cxOf (CX P w) P w K mg base N_law_due "_law_due" (defScope s_law_due) (He.ga K "_law_due") cdv A outer s H E) rfl
  exact vs_cons (vs_for hp rfl (w_any rfl (v_var (pv 0))) (pg_name (i := 2) sc_law_due.nd rfl (by first | exact Or.inl rfl | exact Or.inr rfl) (by first | exact Or.inl rfl | exact Or.inr rfl)) (tg_name) (vs_one (vs_if (PW.pt (v_and (t_gt (v_len rfl rfl (T.free 0) (a1 (v_var (pv 2)))) (v_len rfl rfl (T.free 0) (a1 (v_var (pv 1))))) (pw_and1 (t_val (v_all rfl rfl rfl (T.free 9) (a1 (v_comp (own := [("_law_k", 3)]) (t := .name 3) rfl rfl sc_law_due.nd (w_range1 rfl (T.free 8) (v_len rfl rfl (T.free 0) (a1 (v_var (pv 1))))) (blkOk_by (N := N_law_due) (sc := (defScope s_law_due)) (by decide +kernel)) (tg_name) (by decide) (fun _ _ _ _ _ => pg_name (i := 3) sc_law_due.nd rfl (by first | exact Or.inl rfl | exact Or.inr rfl) (by first | exact Or.inl rfl | exact Or.inr rfl)) (fun _ _ _ _ _ => pts_yes) (fun _ _ _ _ _ => v_eq rfl hr (v_ixG2 rfl (v_var (pv 2)) (v_var (pv 3)) (fun _ _ => rfl)) (v_ixG2 rfl (v_var (pv 1)) (v_var (pv 3)) (fun _ _ => rfl)))))))))) (vs_one (vs_ret (v_bl))) (vs_nil)))) (vs_one (vs_ret (v_bl)))
theorem ok_law_due (T : Tx lf fn K mg) : Callee P w K mg base 1 (He.ga K "_law_due") ["_law_words_here", "_law_row_here"] [false, false] nm sem_law_due := by
  obtain ⟨fd, F⟩ := T.says.def_ 14 (d := d_law_due) rfl
  exact ⟨fd, okf_law_due T F⟩
theorem okf_fault (T : Tx lf fn K mg) {fd : FuncData} (F : FunD K "fault" "fault" (defArgs s_fault) (defBody s_fault) (defScope s_fault) [] [] (He.ga K "fault") fd) : CalleeF P w K mg base 2 (He.ga K "fault") fd ["table"] [false] nm sem_fault := by
  refine v_fnD F sc_fault rfl rfl (fun _ _ _ _ _ _ us hl => match us, hl with | [_], _ => rfl) fun cdv A outer s H E hr => ?_
  have tk := takes_of (X := cxOf (CX P w) P w K mg base N_fault "fault" (defScope s_fault) (He.ga K "fault") cdv A outer s H E) (E := E) rfl rfl rfl rfl
  have hp := passes_of (X := cxOf (CX P w) P w K mg base N_fault "fault" (defScope s_fault) (He.ga K "fault") cdv A outer s H E) rfl
  exact vs_cons (vs_for hp rfl (w_range1 rfl (T.free 8) (v_len rfl rfl (T.free 0) (a1 (v_var (pv 0))))) (pg_name (i := 1) sc_fault.nd rfl (by first | exact Or.inl rfl | exact Or.inr rfl) (by first | exact Or.inl rfl | exact Or.inr rfl)) (tg_name) (vs_one (vs_for hp rfl (w_range1 rfl (T.free 8) (v_var (pv 1))) (pg_name (i := 2) sc_fault.nd rfl (by first | exact Or.inl rfl | exact Or.inr rfl) (by first | exact Or.inl rfl | exact Or.inr rfl)) (tg_name) (vs_cons (vs_set (i := 3) sc_fault.nd rfl (by first | exact Or.inl rfl | exact Or.inr rfl) (v_callC (ok_at_odds T) hr rfl (T.glo 10) tk (v_cons (v_ixG2 rfl (v_var (pv 0)) (v_var (pv 2)) (fun _ _ => rfl)) (v_cons (v_ixG2 rfl (v_var (pv 0)) (v_var (pv 1)) (fun _ _ => rfl)) (v_nil))))) (vs_one (vs_if (t_isNot (v_var (pv 3)) (v_non)) (vs_one (vs_ret (v_tup (v_cons (v_var (pv 3)) (v_cons (v_var (pv 2)) (v_cons (v_var (pv 1)) (v_nil))))))) (vs_nil))))))) (vs_one (vs_ret (v_non)))
theorem ok_fault (T : Tx lf fn K mg) : Callee P w K mg base 2 (He.ga K "fault") ["table"] [false] nm sem_fault := by
  obtain ⟨fd, F⟩ := T.says.def_ 1 (d := d_fault) rfl
  exact ⟨fd, okf_fault T F⟩
theorem okf_law_bytes (T : Tx lf fn K mg) {fd : FuncData} (F : FunD K "_law_bytes" "_law_bytes" (defArgs s_law_bytes) (defBody s_law_bytes) (defScope s_law_bytes) [] [] (He.ga K "_law_bytes") fd) : CalleeF P w K mg base 2 (He.ga K "_law_bytes") fd ["_law_hand", "_law_most"] [true, false] nm sem_law_bytes := by
  refine v_fnD F sc_law_bytes rfl rfl (fun _ _ _ _ _ _ us hl => match us, hl with | [_, _], _ => rfl) fun cdv A outer s H E hr => ?_
  have tk := takes_of (X := cxOf (CX P w) P w K mg base N_law_bytes "_law_bytes" (defScope s_law_bytes) (He.ga K "_law_bytes") cdv A outer s H E) (E := E) rfl rfl rfl rfl
  have hp := passes_of (X := cxOf (CX P w) P w K mg base N_law_bytes "_law_bytes" (defScope s_law_bytes) (He.ga K "_law_bytes") cdv A outer s H E) rfl
  exact vs_cons (vs_set (i := 2) sc_law_bytes.nd rfl (by first | exact Or.inl rfl | exact Or.inr rfl) (v_callC (ok_law_draw T) hr rfl (T.glo 11) tk (v_cons (v_var (pv 0)) (v_cons (v_int) (v_nil))))) (vs_cons (vs_set (i := 3) sc_law_bytes.nd rfl (by first | exact Or.inl rfl | exact Or.inr rfl) (v_add rfl (v_int) (v_callC (ok_law_draw T) hr rfl (T.glo 11) tk (v_cons (v_var (pv 0)) (v_cons (v_int) (v_nil)))))) (vs_one (vs_ret (v_comp (own := [("_law_k", 4)]) (t := .name 4) rfl rfl sc_law_bytes.nd (w_range1 rfl (T.free 8) (v_add rfl (v_int) (v_callC (ok_law_draw T) hr rfl (T.glo 11) tk (v_cons (v_var (pv 0)) (v_cons (v_sub (v_var (pv 1)) (v_int)) (v_nil)))))) (blkOk_by (N := N_law_bytes) (sc := (defScope s_law_bytes)) (by decide +kernel)) (tg_name) (by decide) (fun _ _ _ _ _ => pg_name (i := 4) sc_law_bytes.nd rfl (by first | exact Or.inl rfl | exact Or.inr rfl) (by first | exact Or.inl rfl | exact Or.inr rfl)) (fun _ _ _ _ _ => pts_yes) (fun _ _ _ _ _ => v_mod (v_add rfl (v_var (pv 2)) (v_mul (v_var (pv 3)) (v_var (pv 4)))) (v_int))))))
theorem ok_law_bytes (T : Tx lf fn K mg) : Callee P w K mg base 2 (He.ga K "_law_bytes") ["_law_hand", "_law_most"] [true, false] nm sem_law_bytes := by
  obtain ⟨fd, F⟩ := T.says.def_ 7 (d := d_law_bytes) rfl
  exact ⟨fd, okf_law_bytes T F⟩
theorem okf_law_words (T : Tx lf fn K mg) {fd : FuncData} (F : FunD K "_law_words" "_law_words" (defArgs s_law_words) (defBody s_law_words) (defScope s_law_words) [] [] (He.ga K "_law_words") fd) : CalleeF P w K mg base 2 (He.ga K "_law_words") fd ["_law_hand", "_law_some_here", "_law_most", "_law_longest"] [true, false, false, false] nm sem_law_words := by
  refine v_fnD F sc_law_words rfl rfl (fun _ _ _ _ _ _ us hl => match us, hl with | [_, _, _, _], _ => rfl) fun cdv A outer s H E hr => ?_
  have tk := takes_of (X := cxOf (CX P w) P w K mg base N_law_words "_law_words" (defScope s_law_words) (He.ga K "_law_words") cdv A outer s H E) (E := E) rfl rfl rfl rfl
  have hp := passes_of (X := cxOf (CX P w) P w K mg base N_law_words "_law_words" (defScope s_law_words) (He.ga K "_law_words") cdv A outer s H E) rfl
  exact vs_cons (vs_set (i := 4) sc_law_words.nd rfl (by first | exact Or.inl rfl | exact Or.inr rfl) (v_comp (own := [("_law_one", 7)]) (t := .name 7) rfl rfl sc_law_words.nd (w_any rfl (v_var (pv 1))) (blkOk_by (N := N_law_words) (sc := (defScope s_law_words)) (by decide +kernel)) (tg_name) (by decide) (fun _ _ _ _ _ => pg_name (i := 7) sc_law_words.nd rfl (by first | exact Or.inl rfl | exact Or.inr rfl) (by first | exact Or.inl rfl | exact Or.inr rfl)) (fun _ _ _ _ _ => pts_yes) (fun _ _ _ _ _ => v_tup (v_cons (v_var (pv 7)) (v_nil))))) (vs_cons (vs_for hp rfl (w_range1 rfl (T.free 8) (v_callC (ok_law_draw T) hr rfl (T.glo 11) tk (v_cons (v_var (pv 0)) (v_cons (v_add rfl (v_var (pv 2)) (v_int)) (v_nil))))) (pg_name (i := 5) sc_law_words.nd rfl (by first | exact Or.inl rfl | exact Or.inr rfl) (by first | exact Or.inl rfl | exact Or.inr rfl)) (tg_name) (vs_cons (vs_set (i := 6) sc_law_words.nd rfl (by first | exact Or.inl rfl | exact Or.inr rfl) (v_mod (v_callC (ok_law_draw T) hr rfl (T.glo 11) tk (v_cons (v_var (pv 0)) (v_cons (v_int) (v_nil)))) (v_len rfl rfl (T.free 0) (a1 (v_var (pv 4)))))) (vs_one (vs_if (t_lt (v_len rfl rfl (T.free 0) (a1 (v_ixG2 rfl (v_var (pv 4)) (v_var (pv 6)) (fun _ _ => rfl)))) (v_var (pv 3))) (vs_one (vs_set (i := 4) sc_law_words.nd rfl (by first | exact Or.inl rfl | exact Or.inr rfl) (v_add rfl (v_add rfl (v_slice rfl (v_var (pv 4)) v_nopart (v_part (v_var (pv 6)))) (v_comp (own := [("_law_one", 7)]) (t := .name 7) rfl rfl sc_law_words.nd (w_any rfl (v_var (pv 1))) (blkOk_by (N := N_law_words) (sc := (defScope s_law_words)) (by decide +kernel)) (tg_name) (by decide) (fun _ _ _ _ _ => pg_name (i := 7) sc_law_words.nd rfl (by first | exact Or.inl rfl | exact Or.inr rfl) (by first | exact Or.inl rfl | exact Or.inr rfl)) (fun _ _ _ _ _ => pts_yes) (fun _ _ _ _ _ => v_add rfl (v_ixG2 rfl (v_var (pv 4)) (v_var (pv 6)) (fun _ _ => rfl)) (v_tup (v_cons (v_var (pv 7)) (v_nil)))))) (v_slice rfl (v_var (pv 4)) (v_part (v_add rfl (v_var (pv 6)) (v_int))) v_nopart)))) (vs_nil))))) (vs_one (vs_ret (v_comp (own := [("_law_word", 8)]) (t := .name 8) rfl rfl sc_law_words.nd (w_any rfl (v_var (pv 4))) (blkOk_by (N := N_law_words) (sc := (defScope s_law_words)) (by decide +kernel)) (tg_name) (by decide) (fun _ _ _ _ _ => pg_name (i := 8) sc_law_words.nd rfl (by first | exact Or.inl rfl | exact Or.inr rfl) (by first | exact Or.inl rfl | exact Or.inr rfl)) (fun _ _ _ _ _ => pts_one (t_gt (v_callC (ok_law_draw T) hr rfl (T.glo 11) takes0' (v_cons (v_var (pv 0)) (v_cons (v_int) (v_nil)))) (v_int))) (fun _ _ _ _ _ => v_var (pv 8))))))
theorem ok_law_words (T : Tx lf fn K mg) : Callee P w K mg base 2 (He.ga K "_law_words") ["_law_hand", "_law_some_here", "_law_most", "_law_longest"] [true, false, false, false] nm sem_law_words := by
  obtain ⟨fd, F⟩ := T.says.def_ 8 (d := d_law_words) rfl
  exact ⟨fd, okf_law_words T F⟩
theorem okf_law_signs (T : Tx lf fn K mg) {fd : FuncData} (F : FunD K "_law_signs" "_law_signs" (defArgs s_law_signs) (defBody s_law_signs) (defScope s_law_signs) [] [] (He.ga K "_law_signs") fd) : CalleeF P w K mg base 2 (He.ga K "_law_signs") fd ["_law_hand", "_law_many"] [true, false] nm sem_law_signs := by
  refine v_fnD F sc_law_signs rfl rfl (fun _ _ _ _ _ _ us hl => match us, hl with | [_, _], _ => rfl) fun cdv A outer s H E hr => ?_
  have tk := takes_of (X := cxOf (CX P w) P w K mg base N_law_signs "_law_signs" (defScope s_law_signs) (He.ga K "_law_signs") cdv A outer s H E) (E := E) rfl rfl rfl rfl
  have hp := passes_of (X := cxOf (CX P w) P w K mg base N_law_signs "_law_signs" (defScope s_law_signs) (He.ga K "_law_signs") cdv A outer s H E) rfl
  exact vs_cons (vs_set (i := 2) sc_law_signs.nd rfl (by first | exact Or.inl rfl | exact Or.inr rfl) (v_mul (v_intC rfl (T.free 12) (a1 (v_gt (v_callC (ok_law_draw T) hr rfl (T.glo 11) tk (v_cons (v_var (pv 0)) (v_cons (v_int) (v_nil)))) (v_int)))) (v_add rfl (v_mul (v_callC (ok_law_draw T) hr rfl (T.glo 11) tk (v_cons (v_var (pv 0)) (v_cons (v_int) (v_nil)))) (v_pow (v_int) (v_int))) (v_callC (ok_law_draw T) hr rfl (T.glo 11) tk (v_cons (v_var (pv 0)) (v_cons (v_int) (v_nil))))))) (vs_cons (vs_set (i := 3) sc_law_signs.nd rfl (by first | exact Or.inl rfl | exact Or.inr rfl) (v_add rfl (v_int) (v_ixG2 rfl (v_lst (v_cons (v_int) (v_cons (v_callC (ok_law_draw T) hr rfl (T.glo 11) tk (v_cons (v_var (pv 0)) (v_cons (v_int) (v_nil)))) (v_cons (v_callC (ok_law_draw T) hr rfl (T.glo 11) tk (v_cons (v_var (pv 0)) (v_cons (v_pow (v_int) (v_int)) (v_nil)))) (v_nil))))) (v_callC (ok_law_draw T) hr rfl (T.glo 11) tk (v_cons (v_var (pv 0)) (v_cons (v_int) (v_nil)))) (fun _ _ => rfl)))) (vs_cons (vs_setComp (i := 4) (own := [("_law_k", 6)]) (t := .name 6) rfl rfl sc_law_signs.nd rfl rfl (sw_true rfl rfl rfl (by decide +kernel)) (w_range1 rfl (T.free 8) (v_var (pv 1))) (blkOk_by (N := N_law_signs) (sc := (defScope s_law_signs)) (by decide +kernel)) (tg_name) (by decide) (fun _ _ _ _ _ => pg_name (i := 6) sc_law_signs.nd rfl (by first | exact Or.inl rfl | exact Or.inr rfl) (by first | exact Or.inl rfl | exact Or.inr rfl)) (fun _ _ _ _ _ => pts_yes) (fun _ _ _ _ _ => v_add rfl (v_var (pv 2)) (v_mul (v_var (pv 3)) (v_var (pv 6))))) (vs_cons (vs_set (i := 5) sc_law_signs.nd rfl (by first | exact Or.inl rfl | exact Or.inr rfl) (v_mod (v_callC (ok_law_draw T) hr rfl (T.glo 11) tk (v_cons (v_var (pv 0)) (v_cons (v_int) (v_nil)))) (v_max2 rfl rfl (T.free 13) (a2 (v_int) (v_var (pv 1)))))) (vs_cons (vs_set (i := 4) sc_law_signs.nd rfl (by first | exact Or.inl rfl | exact Or.inr rfl) (v_add rfl (v_slice rfl (v_var (pv 4)) (v_part (v_var (pv 5))) v_nopart) (v_slice rfl (v_var (pv 4)) v_nopart (v_part (v_var (pv 5)))))) (vs_cons (vs_if (t_eq rfl hr (v_callC (ok_law_draw T) hr rfl (T.glo 11) tk (v_cons (v_var (pv 0)) (v_cons (v_int) (v_nil)))) (v_int)) (vs_one (vs_ret (v_rev rfl (v_var (pv 4))))) (vs_nil)) (vs_one (vs_ret (v_var (pv 4)))))))))
theorem ok_law_signs (T : Tx lf fn K mg) : Callee P w K mg base 2 (He.ga K "_law_signs") ["_law_hand", "_law_many"] [true, false] nm sem_law_signs := by
  obtain ⟨fd, F⟩ := T.says.def_ 11 (d := d_law_signs) rfl
  exact ⟨fd, okf_law_signs T F⟩
theorem okf_law_table (T : Tx lf fn K mg) {fd : FuncData} (F : FunD K "_law_table" "_law_table" (defArgs s_law_table) (defBody s_law_table) (defScope s_law_table) [] [] (He.ga K "_law_table") fd) : CalleeF P w K mg base 2 (He.ga K "_law_table") fd ["_law_hand", "_law_words_here", "_law_signs_here"] [true, false, false] nm sem_law_table := by
  refine v_fnD F sc_law_table rfl rfl (fun _ _ _ _ _ _ us hl => match us, hl with | [_, _, _], _ => rfl) fun cdv A outer s H E hr => ?_
  have tk := takes_of (X := cxOf (CX P w) P w K mg base N_law_table "_law_table" (defScope s_law_table) (He.ga K "_law_table") cdv A outer s H E) (E := E) rfl rfl rfl rfl
  have hp := passes_of (X := cxOf (CX P w) P w K mg base N_law_table "_law_table" (defScope s_law_table) (He.ga K "_law_table") cdv A outer s H E) rfl
  exact vs_cons (vs_set (i := 3) sc_law_table.nd rfl (by first | exact Or.inl rfl | exact Or.inr rfl) (v_mod (v_callC (ok_law_draw T) hr rfl (T.glo 11) tk (v_cons (v_var (pv 0)) (v_cons (v_int) (v_nil)))) (v_max2 rfl rfl (T.free 13) (a2 (v_int) (v_len rfl rfl (T.free 0) (a1 (v_var (pv 2)))))))) (vs_cons (vs_set (i := 4) sc_law_table.nd rfl (by first | exact Or.inl rfl | exact Or.inr rfl) (v_add rfl (v_slice rfl (v_var (pv 2)) (v_part (v_var (pv 3))) v_nopart) (v_slice rfl (v_var (pv 2)) v_nopart (v_part (v_var (pv 3)))))) (vs_cons (vs_setComp (i := 5) (own := [("_law_k", 6)]) (t := .name 6) rfl rfl sc_law_table.nd rfl rfl (sw_true rfl rfl rfl (by decide +kernel)) (w_range1 rfl (T.free 8) (v_len rfl rfl (T.free 0) (a1 (v_var (pv 1))))) (blkOk_by (N := N_law_table) (sc := (defScope s_law_table)) (by decide +kernel)) (tg_name) (by decide) (fun _ _ _ _ _ => pg_name (i := 6) sc_law_table.nd rfl (by first | exact Or.inl rfl | exact Or.inr rfl) (by first | exact Or.inl rfl | exact Or.inr rfl)) (fun _ _ _ _ _ => pts_yes) (fun _ _ _ _ _ => v_tup (v_cons (v_ixG2 rfl (v_var (pv 4)) (v_var (pv 6)) (fun _ _ => rfl)) (v_cons (v_ixG2 rfl (v_var (pv 1)) (v_var (pv 6)) (fun _ _ => rfl)) (v_nil))))) (vs_cons (vs_if (t_eq rfl hr (v_callC (ok_law_draw T) hr rfl (T.glo 11) tk (v_cons (v_var (pv 0)) (v_cons (v_int) (v_nil)))) (v_int)) (vs_one (vs_ret (v_rev rfl (v_var (pv 5))))) (vs_nil)) (vs_one (vs_ret (v_var (pv 5)))))))
theorem ok_law_table (T : Tx lf fn K mg) : Callee P w K mg base 2 (He.ga K "_law_table") ["_law_hand", "_law_words_here", "_law_signs_here"] [true, false, false] nm sem_law_table := by
  obtain ⟨fd, F⟩ := T.says.def_ 12 (d := d_law_table) rfl
  exact ⟨fd, okf_law_table T F⟩
theorem okf_law_row (T : Tx lf fn K mg) {fd : FuncData} (F : FunD K "_law_row" "_law_row" (defArgs s_law_row) (defBody s_law_row) (defScope s_law_row) [] [] (He.ga K "_law_row") fd) : CalleeF P w K mg base 2 (He.ga K "_law_row") fd ["_law_hand", "_law_some_here", "_law_words_here"] [true, false, false] nm sem_law_row := by
  refine v_fnD F sc_law_row rfl rfl (fun _ _ _ _ _ _ us hl => match us, hl with | [_, _, _], _ => rfl) fun cdv A outer s H E hr => ?_
  have tk := takes_of (X := cxOf (CX P w) P w K mg base N_law_row "_law_row" (defScope s_law_row) (He.ga K "_law_row") cdv A outer s H E) (E := E) rfl rfl rfl rfl
  have hp := passes_of (X := cxOf (CX P w) P w K mg base N_law_row "_law_row" (defScope s_law_row) (He.ga K "_law_row") cdv A outer s H E) rfl
  exact vs_cons (vs_set (i := 3) sc_law_row.nd rfl (by first | exact Or.inl rfl | exact Or.inr rfl) (v_callC (ok_law_draw T) hr rfl (T.glo 11) tk (v_cons (v_var (pv 0)) (v_cons (v_int) (v_nil))))) (vs_cons (vs_if (PW.pt (v_or (t_eq rfl hr (v_var (pv 3)) (v_int)) (pw_or1 (t_eq rfl hr (v_var (pv 2)) (v_lst (v_nil)))))) (vs_one (vs_ret (v_comp (own := [("_law_k", 6)]) (t := .name 6) rfl rfl sc_law_row.nd (w_range1 rfl (T.free 8) (v_callC (ok_law_draw T) hr rfl (T.glo 11) tk (v_cons (v_var (pv 0)) (v_cons (v_int) (v_nil))))) (blkOk_by (N := N_law_row) (sc := (defScope s_law_row)) (by decide +kernel)) (tg_name) (by decide) (fun _ _ _ _ _ => pg_name (i := 6) sc_law_row.nd rfl (by first | exact Or.inl rfl | exact Or.inr rfl) (by first | exact Or.inl rfl | exact Or.inr rfl)) (fun _ _ _ _ _ => pts_yes) (fun _ _ _ _ _ => v_ixG2 rfl (v_var (pv 1)) (v_mod (v_callC (ok_law_draw T) hr rfl (T.glo 11) takes0' (v_cons (v_var (pv 0)) (v_cons (v_int) (v_nil)))) (v_len rfl rfl (T.free 0) (a1 (v_var (pv 1))))) (fun _ _ => rfl))))) (vs_nil)) (vs_cons (vs_set (i := 4) sc_law_row.nd rfl (by first | exact Or.inl rfl | exact Or.inr rfl) (v_listC rfl rfl (T.free 14) (a1 (v_ixG2 rfl (v_var (pv 2)) (v_mod (v_callC (ok_law_draw T) hr rfl (T.glo 11) tk (v_cons (v_var (pv 0)) (v_cons (v_int) (v_nil)))) (v_len rfl rfl (T.free 0) (a1 (v_var (pv 2))))) (fun _ _ => rfl))))) (vs_cons (vs_set (i := 5) sc_law_row.nd rfl (by first | exact Or.inl rfl | exact Or.inr rfl) (v_slice rfl (v_var (pv 4)) v_nopart (v_part (v_callC (ok_law_draw T) hr rfl (T.glo 11) tk (v_cons (v_var (pv 0)) (v_cons (v_add rfl (v_len rfl rfl (T.free 0) (a1 (v_var (pv 4)))) (v_int)) (v_nil))))))) (vs_cons (vs_if (t_eq rfl hr (v_var (pv 3)) (v_int)) (vs_one (vs_set (i := 5) sc_law_row.nd rfl (by first | exact Or.inl rfl | exact Or.inr rfl) (v_add rfl (v_var (pv 4)) (v_lst (v_cons (v_ixG2 rfl (v_var (pv 1)) (v_mod (v_callC (ok_law_draw T) hr rfl (T.glo 11) tk (v_cons (v_var (pv 0)) (v_cons (v_int) (v_nil)))) (v_len rfl rfl (T.free 0) (a1 (v_var (pv 1))))) (fun _ _ => rfl)) (v_nil)))))) (vs_nil)) (vs_cons (vs_if (PW.pt (v_and (t_eq rfl hr (v_var (pv 3)) (v_int)) (pw_and1 (t_ne rfl hr (v_var (pv 5)) (v_lst (v_nil)))))) (vs_one (vs_setIx (i := 5) (pv 5) (v_callC (ok_law_draw T) hr rfl (T.glo 11) tk (v_cons (v_var (pv 0)) (v_cons (v_len rfl rfl (T.free 0) (a1 (v_var (pv 5)))) (v_nil)))) (v_callC (ok_law_draw T) hr rfl (T.glo 11) tk (v_cons (v_var (pv 0)) (v_cons (v_int) (v_nil)))) (fun _ _ h h2 => pg_sub h h2 set_list))) (vs_nil)) (vs_one (vs_ret (v_var (pv 5)))))))))
theorem ok_law_row (T : Tx lf fn K mg) : Callee P w K mg base 2 (He.ga K "_law_row") ["_law_hand", "_law_some_here", "_law_words_here"] [true, false, false] nm sem_law_row := by
  obtain ⟨fd, F⟩ := T.says.def_ 13 (d := d_law_row) rfl
  exact ⟨fd, okf_law_row T F⟩
theorem okf_Code___init__ (T : Tx lf fn K mg) {fd : FuncData} (F : FunD K "__init__" "Code.__init__" (defArgs s_Code___init__) (defBody s_Code___init__) (defScope s_Code___init__) [] [] (He.ma K (He.ga K "Code") "__init__") fd) : CalleeF P w K mg base 3 (He.ma K (He.ga K "Code") "__init__") fd ["self", "table"] [true, false] nm sem_Code___init__ := by
  refine v_fnD F sc_Code___init__ rfl rfl (fun _ _ _ _ _ _ us hl => match us, hl with | [_, _], _ => rfl) fun cdv A outer s H E hr => ?_
  have tk := takes_of (X := cxOf (CX P w) P w K mg base N_Code___init__ "Code.__init__" (defScope s_Code___init__) (He.ma K (He.ga K "Code") "__init__") cdv A outer s H E) (E := E) rfl rfl rfl rfl
  have hp := passes_of (X := cxOf (CX P w) P w K mg base N_Code___init__ "Code.__init__" (defScope s_Code___init__) (He.ma K (He.ga K "Code") "__init__") cdv A outer s H E) rfl
  exact vs_cons (vs_set (i := 2) sc_Code___init__.nd rfl (by first | exact Or.inl rfl | exact Or.inr rfl) (v_callC (ok_fault T) hr rfl (T.glo 15) tk (v_cons (v_var (pv 1)) (v_nil)))) (vs_cons (vs_if (PW.pt (v_and (t_isNot (v_var (pv 2)) (v_non)) (pw_and1 (t_eq rfl hr (v_ixG2 rfl (v_var (pv 2)) (v_int) (fun _ _ => rfl)) (v_str (s := [116, 119, 105, 99, 101])))))) (vs_one (vs_fail)) (vs_nil)) (vs_cons (vs_if (t_isNot (v_var (pv 2)) (v_non)) (vs_one (vs_fail)) (vs_nil)) (vs_cons (vs_setF (T.at_ nm_one 3 4 18 (x := "Code") (f := "pairs") (cn := 0) (n := 2) (by decide +kernel) (by decide +kernel)) rfl (show ("pairs" : Str) = nm 2 by decide +kernel) (pl_var (pv 0)) (v_sortS rfl hr (kd_by_word T) rfl (T.free 16) rfl (T.glo 17) (v_var (pv 1)))) (vs_cons (vs_setF (T.at_ nm_one 3 4 19 (x := "Code") (f := "words") (cn := 0) (n := 3) (by decide +kernel) (by decide +kernel)) rfl (show ("words" : Str) = nm 3 by decide +kernel) (pl_var (pv 0)) (v_dict0)) (vs_cons (vs_setF (T.at_ nm_one 3 4 5 (x := "Code") (f := "readings") (cn := 0) (n := 1) (by decide +kernel) (by decide +kernel)) rfl (show ("readings" : Str) = nm 1 by decide +kernel) (pl_var (pv 0)) (v_dict0T)) (vs_one (vs_for hp rfl (w_any rfl (v_fld (T.at_ nm_one 3 4 18 (x := "Code") (f := "pairs") (cn := 0) (n := 2) (by decide +kernel) (by decide +kernel)) rfl (show ("pairs" : Str) = nm 2 by decide +kernel) (v_var (pv 0)))) (pg_tup rfl (pgs_cons (pg_name (i := 3) sc_Code___init__.nd rfl (by first | exact Or.inl rfl | exact Or.inr rfl) (by first | exact Or.inl rfl | exact Or.inr rfl)) (pgs_cons (pg_name (i := 4) sc_Code___init__.nd rfl (by first | exact Or.inl rfl | exact Or.inr rfl) (by first | exact Or.inl rfl | exact Or.inr rfl)) (pgs_nil)))) (tg_tup (tgs_cons (tg_name) (tgs_cons (tg_name) (tgs_nil))) rfl) (vs_cons (vs_setD hr (pl_fld (T.at_ nm_one 3 4 19 (x := "Code") (f := "words") (cn := 0) (n := 3) (by decide +kernel) (by decide +kernel)) rfl (show ("words" : Str) = nm 3 by decide +kernel) (pl_var (pv 0))) (rd_var (pv 3)) (v_var (pv 4))) (vs_one (vs_setD hr (pl_fld (T.at_ nm_one 3 4 5 (x := "Code") (f := "readings") (cn := 0) (n := 1) (by decide +kernel) (by decide +kernel)) rfl (show ("readings" : Str) = nm 1 by decide +kernel) (pl_var (pv 0))) (rd_var (pv 4)) (v_var (pv 3))))))))))))
theorem ok_Code___init__ (T : Tx lf fn K mg) : Callee P w K mg base 3 (He.ma K (He.ga K "Code") "__init__") ["self", "table"] [true, false] nm sem_Code___init__ := by
  obtain ⟨fd, F⟩ := T.says.def_ 3 (d := d_Code___init__) rfl
  exact ⟨fd, okf_Code___init__ T F⟩
theorem okf_law_some (T : Tx lf fn K mg) {fd : FuncData} (F : FunD K "_law_some" "_law_some" (defArgs s_law_some) (defBody s_law_some) (defScope s_law_some) [] [] (He.ga K "_law_some") fd) : CalleeF P w K mg base 3 (He.ga K "_law_some") fd ["_law_hand"] [true] nm sem_law_some := by
  refine v_fnD F sc_law_some rfl rfl (fun _ _ _ _ _ _ us hl => match us, hl with | [_], _ => rfl) fun cdv A outer s H E hr => ?_
  have tk := takes_of (X := cxOf (CX P w) P w K mg base N_law_some "_law_some" (defScope s_law_some) (He.ga K "_law_some") cdv A outer s H E) (E := E) rfl rfl rfl rfl
  have hp := passes_of (X := cxOf (CX P w) P w K mg base N_law_some "_law_some" (defScope s_law_some) (He.ga K "_law_some") cdv A outer s H E) rfl
  exact vs_cons (vs_set (i := 1) sc_law_some.nd rfl (by first | exact Or.inl rfl | exact Or.inr rfl) (v_callC (ok_law_bytes T) hr rfl (T.glo 20) tk (v_cons (v_var (pv 0)) (v_cons (v_int) (v_nil))))) (vs_cons (vs_if (t_eq rfl hr (v_callC (ok_law_draw T) hr rfl (T.glo 11) tk (v_cons (v_var (pv 0)) (v_cons (v_int) (v_nil)))) (v_int)) (vs_one (vs_set (i := 1) sc_law_some.nd rfl (by first | exact Or.inl rfl | exact Or.inr rfl) (v_comp (own := [("_law_k", 2)]) (t := .name 2) rfl rfl sc_law_some.nd (w_range1 rfl (T.free 8) (v_add rfl (v_int) (v_callC (ok_law_draw T) hr rfl (T.glo 11) tk (v_cons (v_var (pv 0)) (v_cons (v_int) (v_nil)))))) (blkOk_by (N := N_law_some) (sc := (defScope s_law_some)) (by decide +kernel)) (tg_name) (by decide) (fun _ _ _ _ _ => pg_name (i := 2) sc_law_some.nd rfl (by first | exact Or.inl rfl | exact Or.inr rfl) (by first | exact Or.inl rfl | exact Or.inr rfl)) (fun _ _ _ _ _ => pts_yes) (fun _ _ _ _ _ => v_mod (v_add rfl (v_ixG2 rfl (v_var (pv 1)) (v_int) (fun _ _ => rfl)) (v_mul (v_int) (v_var (pv 2)))) (v_int))))) (vs_nil)) (vs_one (vs_ret (v_var (pv 1)))))
theorem ok_law_some (T : Tx lf fn K mg) : Callee P w K mg base 3 (He.ga K "_law_some") ["_law_hand"] [true] nm sem_law_some := by
  obtain ⟨fd, F⟩ := T.says.def_ 9 (d := d_law_some) rfl
  exact ⟨fd, okf_law_some T F⟩
theorem okf_law_leaves (T : Tx lf fn K mg) {fd : FuncData} (F : FunD K "_law_leaves" "_law_leaves" (defArgs s_law_leaves) (defBody s_law_leaves) (defScope s_law_leaves) [] [] (He.ga K "_law_leaves") fd) : CalleeF P w K mg base 3 (He.ga K "_law_leaves") fd ["_law_hand", "_law_some_here"] [true, false] nm sem_law_leaves := by
  refine v_fnD F sc_law_leaves rfl rfl (fun _ _ _ _ _ _ us hl => match us, hl with | [_, _], _ => rfl) fun cdv A outer s H E hr => ?_
  have tk := takes_of (X := cxOf (CX P w) P w K mg base N_law_leaves "_law_leaves" (defScope s_law_leaves) (He.ga K "_law_leaves") cdv A outer s H E) (E := E) rfl rfl rfl rfl
  have hp := passes_of (X := cxOf (CX P w) P w K mg base N_law_leaves "_law_leaves" (defScope s_law_leaves) (He.ga K "_law_leaves") cdv A outer s H E) rfl
  exact vs_cons (vs_if (t_gt (v_len rfl rfl (T.free 0) (a1 (v_var (pv 1)))) (v_int)) (vs_one (vs_ret (v_slice rfl (v_callC (ok_law_words T) hr rfl (T.glo 21) tk (v_cons (v_var (pv 0)) (v_cons (v_var (pv 1)) (v_cons (v_int) (v_cons (v_int) (v_nil)))))) v_nopart (v_part (v_int))))) (vs_nil)) (vs_one (vs_ret (v_callC (ok_law_words T) hr rfl (T.glo 21) tk (v_cons (v_var (pv 0)) (v_cons (v_var (pv 1)) (v_cons (v_int) (v_cons (v_int) (v_nil))))))))
theorem ok_law_leaves (T : Tx lf fn K mg) : Callee P w K mg base 3 (He.ga K "_law_leaves") ["_law_hand", "_law_some_here"] [true, false] nm sem_law_leaves := by
  obtain ⟨fd, F⟩ := T.says.def_ 10 (d := d_law_leaves) rfl
  exact ⟨fd, okf_law_leaves T F⟩
theorem okf_law (T : Tx lf fn K mg) {fd : FuncData} (F : FunD K "law" "law" (defArgs s_law) (defBody s_law) (defScope s_law) [] [] (He.ga K "law") fd) : CalleeF P w K mg base 5 (He.ga K "law") fd ["_law_script"] [false] nm sem_law := by
  refine v_fnD F sc_law rfl rfl (fun _ _ _ _ _ _ us hl => match us, hl with | [_], _ => rfl) fun cdv A outer s H E hr => ?_
  have tk := takes_of (X := cxOf (CX P w) P w K mg base N_law "law" (defScope s_law) (He.ga K "law") cdv A outer s H E) (E := E) rfl rfl rfl rfl
  have hp := passes_of (X := cxOf (CX P w) P w K mg base N_law "law" (defScope s_law) (He.ga K "law") cdv A outer s H E) rfl
  exact vs_cons (vs_set (i := 1) sc_law.nd rfl (by first | exact Or.inl rfl | exact Or.inr rfl) (v_callC (ok_law_open T) hr rfl (T.glo 22) tk (v_cons (v_var (pv 0)) (v_cons (v_int) (v_nil))))) (vs_cons (vs_set (i := 2) sc_law.nd rfl (by first | exact Or.inl rfl | exact Or.inr rfl) (v_callC (ok_law_some T) hr rfl (T.glo 23) tk (v_cons (v_var (pv 1)) (v_nil)))) (vs_cons (vs_setComp (i := 3) (own := [("_law_k", 9)]) (t := .name 9) rfl rfl sc_law.nd rfl rfl (sw_true rfl rfl rfl (by decide +kernel)) (w_range1 rfl (T.free 8) (v_int)) (blkOk_by (N := N_law) (sc := (defScope s_law)) (by decide +kernel)) (tg_name) (by decide) (fun _ _ _ _ _ => pg_name (i := 9) sc_law.nd rfl (by first | exact Or.inl rfl | exact Or.inr rfl) (by first | exact Or.inl rfl | exact Or.inr rfl)) (fun _ _ _ _ _ => pts_yes) (fun _ _ _ _ _ => v_callC (ok_law_leaves T) hr rfl (T.glo 24) takes0' (v_cons (v_var (pv 1)) (v_cons (v_var (pv 2)) (v_nil))))) (vs_cons (vs_set (i := 4) sc_law.nd rfl (by first | exact Or.inl rfl | exact Or.inr rfl) (v_callC (ok_law_signs T) hr rfl (T.glo 25) tk (v_cons (v_var (pv 1)) (v_cons (v_add rfl (v_max2 rfl rfl (T.free 13) (a2 (v_len rfl rfl (T.free 0) (a1 (v_ixG2 rfl (v_var (pv 3)) (v_int) (fun _ _ => rfl)))) (v_len rfl rfl (T.free 0) (a1 (v_ixG2 rfl (v_var (pv 3)) (v_int) (fun _ _ => rfl)))))) (v_callC (ok_law_draw T) hr rfl (T.glo 11) tk (v_cons (v_var (pv 1)) (v_cons (v_int) (v_nil))))) (v_nil))))) (vs_cons (vs_setComp (i := 5) (own := [("_law_one", 12)]) (t := .name 12) rfl rfl sc_law.nd rfl rfl (sw_true rfl rfl rfl (by decide +kernel)) (w_any rfl (v_var (pv 3))) (blkOk_by (N := N_law) (sc := (defScope s_law)) (by decide +kernel)) (tg_name) (by decide) (fun _ _ _ _ _ => pg_name (i := 12) sc_law.nd rfl (by first | exact Or.inl rfl | exact Or.inr rfl) (by first | exact Or.inl rfl | exact Or.inr rfl)) (fun _ _ _ _ _ => pts_yes) (fun _ _ _ _ _ => v_make (n := 0) (by decide +kernel) (T.mk_ 3 27 (x := "Code") (cn := 0) (by decide +kernel)) (ok_Code___init__ T) hr rfl takes0' (v_cons (v_callC (ok_law_table T) hr rfl (T.glo 26) takes0' (v_cons (v_var (pv 1)) (v_cons (v_var (pv 12)) (v_cons (v_var (pv 4)) (v_nil))))) (v_nil)))) (vs_cons (vs_for hp rfl (w_range2 rfl (T.free 8) (v_int) (v_add rfl (v_int) (v_max2 rfl rfl (T.free 13) (a2 (v_int) (v_min2 rfl rfl (T.free 1) (a2 (v_len rfl rfl (T.free 0) (a1 (v_var (pv 0)))) (v_int))))))) (pg_name (i := 6) sc_law.nd rfl (by first | exact Or.inl rfl | exact Or.inr rfl) (by first | exact Or.inl rfl | exact Or.inr rfl)) (tg_name) (vs_cons (vs_set (i := 1) sc_law.nd rfl (by first | exact Or.inl rfl | exact Or.inr rfl) (v_callC (ok_law_open T) hr rfl (T.glo 22) tk (v_cons (v_var (pv 0)) (v_cons (v_var (pv 6)) (v_nil))))) (vs_cons (vs_set (i := 7) sc_law.nd rfl (by first | exact Or.inl rfl | exact Or.inr rfl) (v_callC (ok_law_row T) hr rfl (T.glo 28) tk (v_cons (v_var (pv 1)) (v_cons (v_var (pv 2)) (v_cons (v_add rfl (v_ixG2 rfl (v_var (pv 3)) (v_int) (fun _ _ => rfl)) (v_ixG2 rfl (v_var (pv 3)) (v_int) (fun _ _ => rfl))) (v_nil)))))) (vs_cons (vs_if (PW.pt (v_and (t_eq rfl hr (v_var (pv 6)) (v_int)) (pw_and1 (t_eq rfl hr (v_callC (ok_law_draw T) hr rfl (T.glo 11) tk (v_cons (v_var (pv 1)) (v_cons (v_int) (v_nil)))) (v_int))))) (vs_one (vs_set (i := 7) sc_law.nd rfl (by first | exact Or.inl rfl | exact Or.inr rfl) (v_slice rfl (v_mul (v_var (pv 7)) (v_int)) v_nopart (v_part (v_int))))) (vs_nil)) (vs_cons (vs_set (i := 8) sc_law.nd rfl (by first | exact Or.inl rfl | exact Or.inr rfl) (v_callC (ok_law_draw T) hr rfl (T.glo 11) tk (v_cons (v_var (pv 1)) (v_cons (v_int) (v_nil))))) (vs_one (vs_for hp rfl (w_any rfl (v_tup (v_cons (v_var (pv 8)) (v_cons (v_sub (v_int) (v_var (pv 8))) (v_cons (v_var (pv 8)) (v_nil)))))) (pg_name (i := 9) sc_law.nd rfl (by first | exact Or.inl rfl | exact Or.inr rfl) (by first | exact Or.inl rfl | exact Or.inr rfl)) (tg_name) (vs_cons (vs_set (i := 10) sc_law.nd rfl (by first | exact Or.inl rfl | exact Or.inr rfl) (v_listC rfl rfl (T.free 14) (a1 (v_var (pv 7))))) (vs_cons (vs_set (i := 11) sc_law.nd rfl (by first | exact Or.inl rfl | exact Or.inr rfl) (v_meth _ (by decide +kernel) (T.mt_ nm_one 3 4 29 (x := "Code") (m := "live") (cn := 0) (n := 4) (by decide +kernel) (by decide +kernel)) (ok_Code_live T) hr tk (v_ixG2 rfl (v_var (pv 5)) (v_var (pv 9)) (fun _ _ => rfl)) (v_cons (v_var (pv 10)) (v_nil)))) (vs_cons (vs_if (PW.pt (v_or (v_not (t_val (v_isT (t := .bool) rfl rfl (T.free 30) rfl (T.free 31) (v_var (pv 11))))) (v_or (t_ne rfl hr (v_var (pv 11)) (v_callC (ok_law_due T) hr rfl (T.glo 32) tk (v_cons (v_ixG2 rfl (v_var (pv 3)) (v_var (pv 9)) (fun _ _ => rfl)) (v_cons (v_var (pv 7)) (v_nil))))) (pw_or1 (t_ne rfl hr (v_var (pv 10)) (v_var (pv 7))))))) (vs_one (vs_ret (v_bl))) (vs_nil)) (vs_one (vs_expr (v_append (i := 10) rfl (pv 10) (a1 (v_ixG2 rfl (v_var (pv 2)) (v_int) (fun _ _ => rfl)))))))))))))))) (vs_one (vs_ret (v_bl))))))))
theorem ok_law (T : Tx lf fn K mg) : Callee P w K mg base 5 (He.ga K "law") ["_law_script"] [false] nm sem_law := by
  obtain ⟨fd, F⟩ := T.says.def_ 15 (d := d_law) rfl
  exact ⟨fd, okf_law T F⟩
end
abbrev RowX : PySem.W.OpenRow := PySem.W.OpenLaw.row PySem.Challenge.rw_skewread_k16_live_beginnings
abbrev hk : PySem.W.Hook := He.hookD 4 lf fn
def ob (s : PySem.W.SharedT) : He.AlD := He.obsDG 4 lf fn (HandSHeadRun.getT s)
theorem ob_eq (s : PySem.W.SharedT) : ob s = hk.obs s.abs := He.obsDG_eq (HandSHeadRun.getT_eq s)
def loose : List Str := ["_wall", "SkewError", "Twice", "Begins", "at_odds", "fault", "by_word", "Code", "_law_open", "_law_draw", "_law_bytes", "_law_words", "_law_some", "_law_leaves", "_law_signs", "_law_table", "_law_row", "_law_due"]
theorem run (w : World) : HandSHeadRun.RunEq RowX (PySem.W.view RowX.prog [21]) hk ob 3000 loose w := by
  intro os
  kernel_rfl
end VS.K16
open PySem PySem.W PySem.Calls PyProof.Rows
theorem VS.K16.holds_of (pure : ∀ ns : List Int, ns.length ≤ 63 → ∃ os', VS.K16.sem_law [.val (.scr ns)] = some (.ret (.val (.bl true)) os')) : PySem.Challenge.rw_skewread_k16_live_beginnings.Holds := by
  w_on; o_law
  refine HandSHeadRun.head_any (r := OpenLaw.row PySem.Challenge.rw_skewread_k16_live_beginnings) (q := view (OpenLaw.row PySem.Challenge.rw_skewread_k16_live_beginnings).prog [21]) (H := VS.K16.hk) (ob := VS.K16.ob) (M := 3000) (loose := VS.K16.loose) (d := HandSHeadRun.topDef (OpenLaw.row PySem.Challenge.rw_skewread_k16_live_beginnings).prog 21) (kwd := []) VS.K16.ob_eq
    (by kernel_rfl) (fun s => by kernel_rfl) VS.K16.run (by kernel_rfl) (by kernel_rfl) (by kernel_rfl) (by rfl) (by first | assumption | decide +kernel) (by decide +kernel) ⟨rfl, rfl, rfl, rfl, rfl, by decide +kernel⟩ ?hw ?hc
  case hw => w_witness2
  case hc =>
    refine VS.walk_V (l := PySem.Challenge.rw_skewread_k16_live_beginnings) (n := 63) (k := 5) (x := "_law_script") (nm := VS.K16.nm) (g := VS.K16.sem_law) rfl (by decide) (by kernel_rfl) ⟨rfl, by decide, by decide⟩ ?F pure
    intro w mg fa h Y G hmg0
    obtain ⟨K, KX, c⟩ := Y
    have hmg : mg ("law" : PySem.Str) = some (.ref fa) := by
      have e : (HandSHeadRun.topDef (OpenLaw.row PySem.Challenge.rw_skewread_k16_live_beginnings).prog 21).name = ("law" : PySem.Str) := by kernel_rfl
      rw [← e]
      exact hmg0
    have T : VS.Tx VS.K16.lf VS.K16.fn K mg := ⟨c, h, KX, G⟩
    have e := hmg.symm.trans (T.glo 33)
    cases e
    obtain ⟨fd, F⟩ := c.def_ 15 (d := VS.K16.d_law) rfl
    have hC := fun base => VS.K16.okf_law (P := (PySem.Challenge.rw_skewread_k16_live_beginnings).prog) (w := w) (base := base) T F
    exact ⟨K, fd, KX, fun s v => (hC h).all s [v] rfl, fun base _ _ => (hC base).ok⟩
theorem PySem.Challenge.cw_skewread_k16_live_beginnings_holds : PySem.Challenge.rw_skewread_k16_live_beginnings.Holds :=
  VS.K16.holds_of fun ns _ => VS.K16.plain ns
