import PyProof.Rows.All
import Wide.All
import OpenK.AllK
import Wide.FinOn
import PySem.Challenge.RW_pb0328_01
set_option Elab.async false

-- MEv
section
open PySem PySem.W PyProof.Rows
namespace Mine

/-- what a name of a frame holds: nothing, the list of draws, a datum -/
inductive V where
  | un
  | row
  | d (x : PyData)

inductive Out where
  | ok (a : V) (k : Nat)
  | exc (k : Nat)
  | bad

mutual
inductive ME where
  | loc (i : Nat)
  | lit (x : PyData)
  | bin (o : Operator) (a b : ME)
  | neg (a : ME)
  | not (a : ME)
  | cmp (o : CmpOp) (a b : ME)
  | cmp2 (o1 o2 : CmpOp) (a b c : ME)
  | and (a r : ME)
  | or (a r : ME)
  | ite (t a b : ME)
  | tup (l : MEs)
  | lst (l : MEs)
  | item (a i : ME)
  | cut (a : ME)
  | call (f : Nat) (l : MEs)
  | isi (T : Nat) (a : ME)
  | len (a : ME)
  | index (a b : ME)
  | endI (a : ME)
inductive MEs where
  | nil
  | cons (a : ME) (r : MEs)
end

mutual
inductive MS where
  | asg (i : Nat) (e : ME)
  | unp (is : List Nat) (e : ME)
  | aug (i : Nat) (o : Operator) (e : ME)
  | ite (t : ME) (a b : MSs)
  | ret (e : ME)
  | rse (e : ME)
  | forR (i : Nat) (n : ME) (b : MSs)
  | forL (i : Nat) (l : ME) (b : MSs)
  | app (i : Nat) (e : ME)
inductive MSs where
  | nil
  | cons (s : MS) (r : MSs)
end

noncomputable def leq : List Nat → List Nat → Bool
  | [], [] => true
  | a :: r, b :: q => match Nat.beq a b with
    | true => leq r q
    | false => false
  | [], _ :: _ => false
  | _ :: _, [] => false

noncomputable def eqS : PyData → PyData → Option Bool
  | .int a, .int b => some (decide (a = b))
  | .str x, .str y => some (leq x.cps.toList y.cps.toList)
  | .int _, .str _ => some false
  | .str _, .int _ => some false
  | .bool a, .bool b => some (a == b)
  | _, _ => none
noncomputable def eqL : List PyData → List PyData → Option Bool
  | [], [] => some true
  | x :: xs, y :: ys => match eqS x y, eqL xs ys with
    | some b, some c => some (b && c)
    | _, _ => none
  | [], _ :: _ => some false
  | _ :: _, [] => some false
noncomputable def eqD : PyData → PyData → Option Bool
  | .tuple xs, .tuple ys => eqL xs ys
  | .list xs, .list ys => eqL xs ys
  | .tuple _, .str _ => some false
  | .str _, .tuple _ => some false
  | x, y => eqS x y

noncomputable def inL (x : List Nat) : List PyData → Option Bool
  | [] => some false
  | .str y :: r => match inL x r with
    | some b => some (leq y.cps.toList x || b)
    | none => none
  | _ :: _ => none
noncomputable def inD : PyData → PyData → Option Bool
  | .str x, .list ys => inL x.cps.toList ys
  | .str x, .tuple ys => inL x.cps.toList ys
  | _, _ => none

noncomputable def idxL (x : List Nat) : List PyData → Option Nat
  | .str y :: r => match leq y.cps.toList x with
    | true => match inL x r with
      | some _ => some 0
      | none => none
    | false => match idxL x r with
      | some j => some (j + 1)
      | none => none
  | _ => none

noncomputable def cmpD : CmpOp → PyData → PyData → Option Bool
  | .Lt, .int a, .int b => some (decide (a < b))
  | .LtE, .int a, .int b => some (decide (a ≤ b))
  | .Gt, .int a, .int b => some (decide (a > b))
  | .GtE, .int a, .int b => some (decide (a ≥ b))
  | .Eq, x, y => eqD x y
  | .NotEq, x, y => match eqD x y with
    | some b => some (!b)
    | none => none
  | .In, x, y => inD x y
  | .NotIn, x, y => match inD x y with
    | some b => some (!b)
    | none => none
  | .Is, .none, .none => some true
  | .Is, .tuple _, .none => some false
  | _, _, _ => none

noncomputable def small (b : Int) : Bool := decide (b.natAbs < 4294967296)
noncomputable def strFit (x y : Str) : Bool := Nat.ble (x.cps.toList.length + y.cps.toList.length) 1000

noncomputable def binD : Operator → PyData → PyData → Option PyData
  | .Add, .int a, .int b => some (.int (a + b))
  | .Add, .str x, .str y => match strFit x y with
    | true => some (.str ⟨(x.cps.toList ++ y.cps.toList).toArray⟩)
    | false => none
  | .Add, .list x, .list y => match Nat.ble (x.length + y.length) 1000 with
    | true => some (.list (x ++ y))
    | false => none
  | .Sub, .int a, .int b => some (.int (a - b))
  | .Mult, .int a, .int b => match small b with
    | true => some (.int (a * b))
    | false => none
  | .FloorDiv, .int a, .int b => match small b, decide (b = 0) with
    | true, false => some (.int (a.fdiv b))
    | _, _ => none
  | .Mod, .int a, .int b => match decide (b = 0) with
    | false => some (.int (a.fmod b))
    | true => none
  | .Pow, .int a, .int b => match small a, decide (0 ≤ b), decide (b ≤ 1000) with
    | true, true, true => some (.int (a ^ b.toNat))
    | _, _, _ => none
  | .LShift, .int a, .int b => match small a, decide (0 ≤ b), decide (b ≤ 1000) with
    | true, true, true => some (.int (a * 2 ^ b.toNat))
    | _, _, _ => none
  | .BitXor, .int a, .int b => some (.int (Builtin.bitXor a b))
  | _, _, _ => none

noncomputable def augD : Operator → PyData → PyData → Option PyData
  | .Add, .int a, .int b => some (.int (a + b))
  | .Sub, .int a, .int b => some (.int (a - b))
  | _, _, _ => none

noncomputable def itemD : PyData → PyData → Option PyData
  | .list xs, .int i => match decide (0 ≤ i), decide (i < 1000) with
    | true, true => xs[i.toNat]?
    | _, _ => none
  | .tuple xs, .int i => match decide (0 ≤ i), decide (i < 1000) with
    | true, true => xs[i.toNat]?
    | _, _ => none
  | .str x, .int i => match decide (0 ≤ i), decide (i < 1000) with
    | true, true => match x.cps.toList[i.toNat]? with
      | some c => some (.str ⟨#[c]⟩)
      | none => none
    | _, _ => none
  | _, _ => none

noncomputable def isiD : Nat → PyData → Option Bool
  | 0, .int _ => some true
  | 0, .str _ => some false
  | 1, .int _ => some false
  | 1, .bool _ => some true
  | 0, .bool _ => some true
  | 2, .str _ => some true
  | 2, .int _ => some false
  | 3, .tuple _ => some true
  | 3, .list _ => some false
  | _, _ => none

noncomputable def lastIs (c : Nat) : List Nat → Bool
  | [] => false
  | [x] => Nat.beq x c
  | _ :: y :: r => lastIs c (y :: r)
noncomputable def initL : List Nat → List Nat
  | [] => []
  | [_] => []
  | x :: y :: r => x :: initL (y :: r)

noncomputable def lenD : PyData → Option Int
  | .tuple xs => match Nat.ble xs.length 1000 with
    | true => some (Int.ofNat xs.length)
    | false => none
  | .list xs => match Nat.ble xs.length 1000 with
    | true => some (Int.ofNat xs.length)
    | false => none
  | _ => none
noncomputable def isLst : PyData → Bool
  | .list _ => true
  | _ => false
noncomputable def idxD : PyData → PyData → Option Nat
  | .list xs, .str s => match Nat.ble xs.length 1000 with
    | true => idxL s.cps.toList xs
    | false => none
  | _, _ => none

noncomputable def cutD : PyData → Option PyData
  | .str s => match Nat.ble s.cps.toList.length 1000 with
    | true => some (.str ⟨(initL s.cps.toList).toArray⟩)
    | false => none
  | _ => none

inductive Outs where
  | ok (a : List V) (k : Nat)
  | exc (k : Nat)
  | bad

noncomputable def ofO (k : Nat) : Option PyData → Out
  | some x => .ok (.d x) k
  | none => .bad
noncomputable def ofB (k : Nat) : Option Bool → Out
  | some b => .ok (.d (.bool b)) k
  | none => .bad
noncomputable def data : List V → Option (List PyData)
  | [] => some []
  | .d x :: r => match data r with
    | some l => some (x :: l)
    | none => none
  | _ :: _ => none

/-- a value's truth, then on -/
noncomputable def tst (r : Out) (y n : Nat → Out) : Out := match r with
  | .ok (.d (.bool b)) k => match b with
    | true => y k
    | false => n k
  | .exc k => .exc k
  | _ => .bad
noncomputable def one (r : Out) (g : PyData → Nat → Out) : Out := match r with
  | .ok (.d x) k => g x k
  | .exc k => .exc k
  | _ => .bad

mutual
noncomputable def evE (call : Nat → List V → Nat → Out) (ρ : List V) : ME → Nat → Out
  | .loc i, k => match ρ[i]? with
    | some (.d x) => .ok (.d x) k
    | some .row => .ok .row k
    | _ => .bad
  | .lit x, k => .ok (.d x) k
  | .bin o a b, k => one (evE call ρ a k) fun x k => one (evE call ρ b k) fun y k => ofO k (binD o x y)
  | .neg a, k => one (evE call ρ a k) fun x k => match x with
    | .int i => .ok (.d (.int (-i))) k
    | _ => .bad
  | .not a, k => one (evE call ρ a k) fun x k => match x with
    | .bool b => .ok (.d (.bool (!b))) k
    | _ => .bad
  | .cmp o a b, k => one (evE call ρ a k) fun x k => one (evE call ρ b k) fun y k => ofB k (cmpD o x y)
  | .cmp2 o1 o2 a b c, k => one (evE call ρ a k) fun x k => one (evE call ρ b k) fun y k => tst (ofB k (cmpD o1 x y)) (fun k => one (evE call ρ c k) fun z k => ofB k (cmpD o2 y z)) (fun k => .ok (.d (.bool false)) k)
  | .and a r, k => tst (evE call ρ a k) (fun k => evE call ρ r k) (fun k => .ok (.d (.bool false)) k)
  | .or a r, k => tst (evE call ρ a k) (fun k => .ok (.d (.bool true)) k) (fun k => evE call ρ r k)
  | .ite t a b, k => tst (evE call ρ t k) (fun k => evE call ρ a k) (fun k => evE call ρ b k)
  | .tup l, k => match evEs call ρ l k with
    | .ok vs k => match data vs with
      | some xs => .ok (.d (.tuple xs)) k
      | none => .bad
    | .exc k => .exc k
    | .bad => .bad
  | .lst l, k => match evEs call ρ l k with
    | .ok vs k => match data vs with
      | some xs => .ok (.d (.list xs)) k
      | none => .bad
    | .exc k => .exc k
    | .bad => .bad
  | .item a i, k => one (evE call ρ a k) fun x k => one (evE call ρ i k) fun y k => ofO k (itemD x y)
  | .cut a, k => one (evE call ρ a k) fun x k => ofO k (cutD x)
  | .call f l, k => match evEs call ρ l k with
    | .ok vs k => call f vs k
    | .exc k => .exc k
    | .bad => .bad
  | .isi T a, k => one (evE call ρ a k) fun x k => ofB k (isiD T x)
  | .len a, k => one (evE call ρ a k) fun x k => match lenD x with
    | some n => .ok (.d (.int n)) k
    | none => .bad
  | .index a b, k => one (evE call ρ a k) fun x k => match isLst x with
    | true => one (evE call ρ b k) fun y k => match idxD x y with
      | some j => .ok (.d (.int (Int.ofNat j))) k
      | none => .bad
    | false => .bad
  | .endI a, k => one (evE call ρ a k) fun x k => match x with
    | .str s => .ok (.d (.bool (lastIs 73 s.cps.toList))) k
    | _ => .bad
noncomputable def evEs (call : Nat → List V → Nat → Out) (ρ : List V) : MEs → Nat → Outs
  | .nil, k => .ok [] k
  | .cons a r, k => match evE call ρ a k with
    | .ok v k => match evEs call ρ r k with
      | .ok vs k => .ok (v :: vs) k
      | .exc k => .exc k
      | .bad => .bad
    | .exc k => .exc k
    | .bad => .bad
end

inductive Res where
  | next (ρ : List V) (k : Nat)
  | ret (v : V) (k : Nat)
  | exc (k : Nat)
  | bad

noncomputable def putAll : List Nat → List PyData → List V → Option (List V)
  | [], [], ρ => some ρ
  | i :: is, x :: xs, ρ => putAll is xs (ρ.set i (.d x))
  | _, _, _ => none

noncomputable def tstR (r : Out) (y n : Nat → Res) : Res := match r with
  | .ok (.d (.bool b)) k => match b with
    | true => y k
    | false => n k
  | .exc k => .exc k
  | _ => .bad

/-- a loop over known things -/
noncomputable def turns (body : List V → Nat → Res) (i : Nat) : List PyData → List V → Nat → Res
  | [], ρ, k => .next ρ k
  | x :: xs, ρ, k => match body (ρ.set i (.d x)) k with
    | .next ρ k => turns body i xs ρ k
    | .ret v k => .ret v k
    | _ => .bad

noncomputable def upto : Nat → Nat → List PyData
  | 0, _ => []
  | n + 1, i => .int (Int.ofNat i) :: upto n (i + 1)

mutual
noncomputable def exS (call : Nat → List V → Nat → Out) : MS → List V → Nat → Res
  | .asg i e, ρ, k => match evE call ρ e k with
    | .ok v k => .next (ρ.set i v) k
    | .exc k => .exc k
    | .bad => .bad
  | .unp is e, ρ, k => match evE call ρ e k with
    | .ok (.d (.tuple xs)) k => match putAll is xs ρ with
      | some ρ => .next ρ k
      | none => .bad
    | .exc k => .exc k
    | _ => .bad
  | .aug i o e, ρ, k => match ρ[i]? with
    | some (.d x) => match evE call ρ e k with
      | .ok (.d y) k => match augD o x y with
        | some z => .next (ρ.set i (.d z)) k
        | none => .bad
      | .exc k => .exc k
      | _ => .bad
    | _ => .bad
  | .ite t a b, ρ, k => tstR (evE call ρ t k) (fun k => exSs call a ρ k) (fun k => exSs call b ρ k)
  | .ret e, ρ, k => match evE call ρ e k with
    | .ok v k => .ret v k
    | .exc k => .exc k
    | .bad => .bad
  | .rse e, ρ, k => match evE call ρ e k with
    | .ok (.d _) k => .exc k
    | .exc k => .exc k
    | _ => .bad
  | .forR i n b, ρ, k => match evE call ρ n k with
    | .ok (.d (.int m)) k => match decide (0 ≤ m), decide (m ≤ 1000) with
      | true, true => turns (exSs call b) i (upto m.toNat 0) ρ k
      | _, _ => .bad
    | .exc k => .exc k
    | _ => .bad
  | .forL i l b, ρ, k => match evE call ρ l k with
    | .ok (.d (.list xs)) k => turns (exSs call b) i xs ρ k
    | .exc k => .exc k
    | _ => .bad
  | .app i e, ρ, k => match ρ[i]? with
    | some .row => match evE call ρ e k with
      | .ok (.d (.int v)) k => match call 99 [.d (.int v)] k with
        | .ok _ k => .next ρ k
        | _ => .bad
      | .exc k => .exc k
      | _ => .bad
    | _ => .bad
noncomputable def exSs (call : Nat → List V → Nat → Out) : MSs → List V → Nat → Res
  | .nil, ρ, k => .next ρ k
  | .cons s r, ρ, k => match exS call s ρ k with
    | .next ρ k => exSs call r ρ k
    | r => r
end

structure Fn where
  arity : Nat
  slots : Nat
  body : MSs

noncomputable def pad : Nat → List V → List V
  | 0, _ => []
  | n + 1, [] => .un :: pad n []
  | n + 1, v :: r => v :: pad n r

noncomputable def tBad : Str := ⟨#[98, 97, 100]⟩

/-- the text's calls: 0 _law_next, 1 _law_encoded, 2 _law_decoded; 3 encode, 4 decode; the rest by the table -/
noncomputable def evF (δ : Nat → Int) (tab : Nat → Option Fn) : Nat → Nat → List V → Nat → Out
  | 0, _, _, _ => .bad
  | n + 1, 0, vs, k => match vs with
    | [.row] => .ok (.d (.int (δ k))) (k + 1)
    | _ => .bad
  | n + 1, 1, vs, k => match vs with
    | [.d x] => match evF δ tab n 3 [.d x] k with
      | .ok v k => .ok v k
      | .exc k => .ok (.d (.str tBad)) k
      | .bad => .bad
    | _ => .bad
  | n + 1, 2, vs, k => match vs with
    | [.d x] => match evF δ tab n 4 [.d x] k with
      | .ok v k => .ok v k
      | .exc k => .ok (.d (.str tBad)) k
      | .bad => .bad
    | _ => .bad
  | n + 1, f, vs, k => match tab f with
    | some fn => match Nat.beq vs.length fn.arity with
      | true => match exSs (evF δ tab n) fn.body (pad fn.slots vs) k with
        | .ret v k => .ok v k
        | .exc k => .exc k
        | _ => .bad
      | false => .bad
    | none => .bad

end Mine

end

-- Bod
section
open PySem PySem.W PyProof.Rows
namespace Mine
/-- encode: row, fault, name, word -/
noncomputable def b_encode : MSs := (.cons (.asg 1 (.call 15 (.cons (.loc 0) .nil))) (.cons (.ite (.cmp .NotEq (.loc 1) (.lit (.str ⟨#[]⟩))) (.cons (.rse (.loc 1)) .nil) .nil) (.cons (.asg 2 (.item (.loc 0) (.lit (.int 0)))) (.cons (.ite (.cmp .In (.loc 2) (.call 8 .nil)) (.cons (.asg 3 (.bin .Add (.lit (.int 2147483648)) (.bin .Mult (.index (.call 8 .nil) (.loc 2)) (.lit (.int 268435456))))) (.cons (.ret (.bin .Add (.bin .Add (.bin .Add (.loc 3) (.bin .Mult (.item (.loc 0) (.lit (.int 1))) (.lit (.int 16777216)))) (.bin .Mult (.item (.loc 0) (.lit (.int 2))) (.lit (.int 1048576)))) (.bin .Mod (.item (.loc 0) (.lit (.int 3))) (.lit (.int 1048576))))) .nil)) .nil) (.cons (.ite (.cmp .In (.loc 2) (.tup (.cons (.lit (.str ⟨#[66]⟩)) (.cons (.lit (.str ⟨#[66, 76]⟩)) (.cons (.lit (.str ⟨#[66, 82]⟩)) (.cons (.lit (.str ⟨#[66, 76, 82]⟩)) (.cons (.lit (.str ⟨#[84, 82, 65, 80]⟩)) .nil))))))) (.cons (.ret (.call 17 (.cons (.loc 0) .nil))) .nil) .nil) (.cons (.ret (.call 16 (.cons (.loc 0) .nil))) .nil))))))
/-- decode: word, row, name -/
noncomputable def b_decode : MSs := (.cons (.ite (.not (.call 9 (.cons (.loc 0) (.cons (.lit (.int 0)) (.cons (.lit (.int 4294967295)) .nil))))) (.cons (.rse (.lit (.str ⟨#[98, 97, 100, 32, 119, 111, 114, 100]⟩))) .nil) .nil) (.cons (.ite (.cmp .GtE (.loc 0) (.lit (.int 3221225472))) (.cons (.asg 1 (.call 20 (.cons (.loc 0) .nil))) .nil) (.cons (.ite (.cmp .GtE (.loc 0) (.lit (.int 2147483648))) (.cons (.asg 2 (.item (.call 8 .nil) (.bin .Mod (.bin .FloorDiv (.loc 0) (.lit (.int 268435456))) (.lit (.int 4))))) (.cons (.asg 1 (.tup (.cons (.loc 2) (.cons (.bin .Mod (.bin .FloorDiv (.loc 0) (.lit (.int 16777216))) (.lit (.int 16))) (.cons (.bin .Mod (.bin .FloorDiv (.loc 0) (.lit (.int 1048576))) (.lit (.int 16))) (.cons (.call 18 (.cons (.bin .Mod (.loc 0) (.lit (.int 1048576))) (.cons (.lit (.int 20)) .nil))) .nil)))))) .nil)) (.cons (.asg 1 (.call 19 (.cons (.loc 0) .nil))) .nil)) .nil)) (.cons (.ite (.or (.cmp .NotEq (.call 15 (.cons (.loc 1) .nil)) (.lit (.str ⟨#[]⟩))) (.cmp .NotEq (.call 3 (.cons (.loc 1) .nil)) (.loc 0))) (.cons (.rse (.lit (.str ⟨#[117, 110, 107, 110, 111, 119, 110, 32, 119, 111, 114, 100]⟩))) .nil) .nil) (.cons (.ret (.loc 1)) .nil))))
/-- conditions:  -/
noncomputable def b_conditions : MSs := (.cons (.ret (.lst (.cons (.lit (.str ⟨#[77, 73]⟩)) (.cons (.lit (.str ⟨#[69, 81]⟩)) (.cons (.lit (.str ⟨#[67, 83]⟩)) (.cons (.lit (.str ⟨#[86, 83]⟩)) (.cons (.lit (.str ⟨#[76, 83]⟩)) (.cons (.lit (.str ⟨#[76, 84]⟩)) (.cons (.lit (.str ⟨#[76, 69]⟩)) (.cons (.lit (.str ⟨#[65, 76]⟩)) (.cons (.lit (.str ⟨#[80, 76]⟩)) (.cons (.lit (.str ⟨#[78, 69]⟩)) (.cons (.lit (.str ⟨#[67, 67]⟩)) (.cons (.lit (.str ⟨#[86, 67]⟩)) (.cons (.lit (.str ⟨#[72, 73]⟩)) (.cons (.lit (.str ⟨#[71, 69]⟩)) (.cons (.lit (.str ⟨#[71, 84]⟩)) (.cons (.lit (.str ⟨#[78, 86]⟩)) .nil)))))))))))))))))) .nil)
/-- negate: cond, names -/
noncomputable def b_negate : MSs := (.cons (.asg 1 (.call 5 .nil)) (.cons (.ret (.item (.loc 1) (.bin .BitXor (.index (.loc 1) (.loc 0)) (.lit (.int 8))))) .nil))
/-- operations:  -/
noncomputable def b_operations : MSs := (.cons (.ret (.lst (.cons (.lit (.str ⟨#[77, 79, 86]⟩)) (.cons (.lit (.str ⟨#[76, 83, 76]⟩)) (.cons (.lit (.str ⟨#[65, 83, 82]⟩)) (.cons (.lit (.str ⟨#[82, 79, 82]⟩)) (.cons (.lit (.str ⟨#[65, 78, 68]⟩)) (.cons (.lit (.str ⟨#[65, 78, 78]⟩)) (.cons (.lit (.str ⟨#[73, 79, 82]⟩)) (.cons (.lit (.str ⟨#[88, 79, 82]⟩)) (.cons (.lit (.str ⟨#[65, 68, 68]⟩)) (.cons (.lit (.str ⟨#[83, 85, 66]⟩)) (.cons (.lit (.str ⟨#[77, 85, 76]⟩)) (.cons (.lit (.str ⟨#[68, 73, 86]⟩)) .nil)))))))))))))) .nil)
/-- memory_names:  -/
noncomputable def b_memory_names : MSs := (.cons (.ret (.lst (.cons (.lit (.str ⟨#[76, 68, 82]⟩)) (.cons (.lit (.str ⟨#[76, 68, 66]⟩)) (.cons (.lit (.str ⟨#[83, 84, 82]⟩)) (.cons (.lit (.str ⟨#[83, 84, 66]⟩)) .nil)))))) .nil)
/-- is_whole: value, low, high -/
noncomputable def b_is_whole : MSs := (.cons (.ret (.and (.isi 0 (.loc 0)) (.and (.not (.isi 1 (.loc 0))) (.and (.cmp .LtE (.loc 1) (.loc 0)) (.cmp .LtE (.loc 0) (.loc 2)))))) .nil)
/-- is_register: value -/
noncomputable def b_is_register : MSs := (.cons (.ret (.call 9 (.cons (.loc 0) (.cons (.lit (.int 0)) (.cons (.lit (.int 15)) .nil))))) .nil)
/-- immediate_operation: name -/
noncomputable def b_immediate_operation : MSs := (.cons (.ite (.and (.endI (.loc 0)) (.cmp .In (.cut (.loc 0)) (.call 7 .nil))) (.cons (.ret (.cut (.loc 0))) .nil) .nil) (.cons (.ret (.lit (.str ⟨#[]⟩))) .nil))
/-- operation_fault: row, name, a, b, c -/
noncomputable def b_operation_fault : MSs := (.cons (.unp [1, 2, 3, 4] (.loc 0)) (.cons (.ite (.or (.not (.call 10 (.cons (.loc 2) .nil))) (.not (.call 10 (.cons (.loc 3) .nil)))) (.cons (.ret (.lit (.str ⟨#[98, 97, 100, 32, 114, 101, 103, 105, 115, 116, 101, 114]⟩))) .nil) .nil) (.cons (.ite (.and (.cmp .In (.loc 1) (.tup (.cons (.lit (.str ⟨#[77, 79, 86]⟩)) (.cons (.lit (.str ⟨#[77, 79, 86, 73]⟩)) (.cons (.lit (.str ⟨#[77, 79, 86, 72]⟩)) (.cons (.lit (.str ⟨#[71, 69, 84, 72]⟩)) .nil)))))) (.cmp .NotEq (.loc 3) (.lit (.int 0)))) (.cons (.ret (.lit (.str ⟨#[98, 97, 100, 32, 114, 101, 103, 105, 115, 116, 101, 114]⟩))) .nil) .nil) (.cons (.ite (.cmp .Eq (.loc 1) (.lit (.str ⟨#[71, 69, 84, 72]⟩))) (.cons (.ret (.ite (.call 9 (.cons (.loc 4) (.cons (.lit (.int 0)) (.cons (.lit (.int 0)) .nil)))) (.lit (.str ⟨#[]⟩)) (.lit (.str ⟨#[98, 97, 100, 32, 111, 112, 101, 114, 97, 110, 100]⟩)))) .nil) .nil) (.cons (.ite (.cmp .Eq (.loc 1) (.lit (.str ⟨#[77, 79, 86, 72]⟩))) (.cons (.ret (.ite (.call 9 (.cons (.loc 4) (.cons (.lit (.int 0)) (.cons (.lit (.int 65535)) .nil)))) (.lit (.str ⟨#[]⟩)) (.lit (.str ⟨#[98, 97, 100, 32, 105, 109, 109, 101, 100, 105, 97, 116, 101]⟩)))) .nil) .nil) (.cons (.ite (.cmp .In (.loc 1) (.call 7 .nil)) (.cons (.ret (.ite (.call 10 (.cons (.loc 4) .nil)) (.lit (.str ⟨#[]⟩)) (.lit (.str ⟨#[98, 97, 100, 32, 114, 101, 103, 105, 115, 116, 101, 114]⟩)))) .nil) .nil) (.cons (.ret (.ite (.call 9 (.cons (.loc 4) (.cons (.neg (.lit (.int 65536))) (.cons (.lit (.int 65535)) .nil)))) (.lit (.str ⟨#[]⟩)) (.lit (.str ⟨#[98, 97, 100, 32, 105, 109, 109, 101, 100, 105, 97, 116, 101]⟩)))) .nil)))))))
/-- memory_fault: row -/
noncomputable def b_memory_fault : MSs := (.cons (.ite (.or (.not (.call 10 (.cons (.item (.loc 0) (.lit (.int 1))) .nil))) (.not (.call 10 (.cons (.item (.loc 0) (.lit (.int 2))) .nil)))) (.cons (.ret (.lit (.str ⟨#[98, 97, 100, 32, 114, 101, 103, 105, 115, 116, 101, 114]⟩))) .nil) .nil) (.cons (.ret (.ite (.call 9 (.cons (.item (.loc 0) (.lit (.int 3))) (.cons (.neg (.lit (.int 524288))) (.cons (.lit (.int 524287)) .nil)))) (.lit (.str ⟨#[]⟩)) (.lit (.str ⟨#[98, 97, 100, 32, 111, 102, 102, 115, 101, 116]⟩)))) .nil))
/-- branch_fault: row, name, cond, c, last -/
noncomputable def b_branch_fault : MSs := (.cons (.unp [1, 2, 3, 4] (.loc 0)) (.cons (.ite (.cmp .NotIn (.loc 2) (.call 5 .nil)) (.cons (.ret (.lit (.str ⟨#[98, 97, 100, 32, 99, 111, 110, 100, 105, 116, 105, 111, 110]⟩))) .nil) .nil) (.cons (.ite (.cmp .Eq (.loc 1) (.lit (.str ⟨#[84, 82, 65, 80]⟩))) (.cons (.ite (.not (.call 9 (.cons (.loc 3) (.cons (.lit (.int 0)) (.cons (.lit (.int 15)) .nil))))) (.cons (.ret (.lit (.str ⟨#[98, 97, 100, 32, 116, 114, 97, 112]⟩))) .nil) .nil) (.cons (.ret (.ite (.call 9 (.cons (.loc 4) (.cons (.lit (.int 0)) (.cons (.lit (.int 65535)) .nil)))) (.lit (.str ⟨#[]⟩)) (.lit (.str ⟨#[98, 97, 100, 32, 112, 108, 97, 99, 101]⟩)))) .nil)) .nil) (.cons (.ite (.not (.call 9 (.cons (.loc 4) (.cons (.lit (.int 0)) (.cons (.lit (.int 0)) .nil))))) (.cons (.ret (.lit (.str ⟨#[98, 97, 100, 32, 111, 112, 101, 114, 97, 110, 100]⟩))) .nil) .nil) (.cons (.ite (.or (.cmp .Eq (.loc 1) (.lit (.str ⟨#[66]⟩))) (.cmp .Eq (.loc 1) (.lit (.str ⟨#[66, 76]⟩)))) (.cons (.ret (.ite (.call 9 (.cons (.loc 3) (.cons (.neg (.lit (.int 8388608))) (.cons (.lit (.int 8388607)) .nil)))) (.lit (.str ⟨#[]⟩)) (.lit (.str ⟨#[98, 97, 100, 32, 111, 102, 102, 115, 101, 116]⟩)))) .nil) .nil) (.cons (.ite (.or (.not (.call 10 (.cons (.loc 3) .nil))) (.and (.cmp .Eq (.loc 1) (.lit (.str ⟨#[66, 76, 82]⟩))) (.cmp .Eq (.loc 3) (.lit (.int 12))))) (.cons (.ret (.lit (.str ⟨#[98, 97, 100, 32, 114, 101, 103, 105, 115, 116, 101, 114]⟩))) .nil) .nil) (.cons (.ret (.lit (.str ⟨#[]⟩))) .nil)))))))
/-- row_fault: row, name -/
noncomputable def b_row_fault : MSs := (.cons (.ite (.or (.not (.isi 3 (.loc 0))) (.or (.cmp .NotEq (.len (.loc 0)) (.lit (.int 4))) (.not (.isi 2 (.item (.loc 0) (.lit (.int 0))))))) (.cons (.ret (.lit (.str ⟨#[98, 97, 100, 32, 115, 104, 97, 112, 101]⟩))) .nil) .nil) (.cons (.asg 1 (.item (.loc 0) (.lit (.int 0)))) (.cons (.ite (.or (.cmp .In (.loc 1) (.tup (.cons (.lit (.str ⟨#[77, 79, 86, 72]⟩)) (.cons (.lit (.str ⟨#[71, 69, 84, 72]⟩)) .nil)))) (.or (.cmp .In (.loc 1) (.call 7 .nil)) (.cmp .NotEq (.call 11 (.cons (.loc 1) .nil)) (.lit (.str ⟨#[]⟩))))) (.cons (.ret (.call 12 (.cons (.loc 0) .nil))) .nil) .nil) (.cons (.ite (.cmp .In (.loc 1) (.call 8 .nil)) (.cons (.ret (.call 13 (.cons (.loc 0) .nil))) .nil) .nil) (.cons (.ite (.cmp .In (.loc 1) (.tup (.cons (.lit (.str ⟨#[66]⟩)) (.cons (.lit (.str ⟨#[66, 76]⟩)) (.cons (.lit (.str ⟨#[66, 82]⟩)) (.cons (.lit (.str ⟨#[66, 76, 82]⟩)) (.cons (.lit (.str ⟨#[84, 82, 65, 80]⟩)) .nil))))))) (.cons (.ret (.call 14 (.cons (.loc 0) .nil))) .nil) .nil) (.cons (.ret (.lit (.str ⟨#[117, 110, 107, 110, 111, 119, 110, 32, 110, 97, 109, 101]⟩))) .nil))))))
/-- operation_word: row, fields, name, a, b, c -/
noncomputable def b_operation_word : MSs := (.cons (.unp [2, 3, 4, 5] (.loc 0)) (.cons (.asg 1 (.bin .Add (.bin .Mult (.loc 3) (.lit (.int 16777216))) (.bin .Mult (.loc 4) (.lit (.int 1048576))))) (.cons (.ite (.cmp .Eq (.loc 2) (.lit (.str ⟨#[71, 69, 84, 72]⟩))) (.cons (.ret (.bin .Add (.lit (.int 536870912)) (.loc 1))) .nil) .nil) (.cons (.ite (.cmp .Eq (.loc 2) (.lit (.str ⟨#[77, 79, 86, 72]⟩))) (.cons (.ret (.bin .Add (.bin .Add (.lit (.int 1610612736)) (.loc 1)) (.loc 5))) .nil) .nil) (.cons (.ite (.cmp .In (.loc 2) (.call 7 .nil)) (.cons (.ret (.bin .Add (.bin .Add (.loc 1) (.bin .Mult (.index (.call 7 .nil) (.loc 2)) (.lit (.int 65536)))) (.loc 5))) .nil) .nil) (.cons (.aug 1 .Add (.bin .Mult (.index (.call 7 .nil) (.cut (.loc 2))) (.lit (.int 65536)))) (.cons (.ite (.cmp .Lt (.loc 5) (.lit (.int 0))) (.cons (.ret (.bin .Add (.bin .Add (.bin .Add (.lit (.int 1342177280)) (.loc 1)) (.loc 5)) (.lit (.int 65536)))) .nil) .nil) (.cons (.ret (.bin .Add (.bin .Add (.lit (.int 1073741824)) (.loc 1)) (.loc 5))) .nil))))))))
/-- branch_word: row, word, name, cond, c, last -/
noncomputable def b_branch_word : MSs := (.cons (.unp [2, 3, 4, 5] (.loc 0)) (.cons (.asg 1 (.bin .Add (.lit (.int 3221225472)) (.bin .Mult (.index (.call 5 .nil) (.loc 3)) (.lit (.int 16777216))))) (.cons (.ite (.cmp .Eq (.loc 2) (.lit (.str ⟨#[84, 82, 65, 80]⟩))) (.cons (.ret (.bin .Add (.bin .Add (.bin .Add (.bin .Add (.loc 1) (.lit (.int 268435456))) (.bin .Mult (.loc 5) (.lit (.int 256)))) (.bin .Mult (.loc 4) (.lit (.int 16)))) (.lit (.int 12)))) .nil) .nil) (.cons (.ite (.or (.cmp .Eq (.loc 2) (.lit (.str ⟨#[66, 76]⟩))) (.cmp .Eq (.loc 2) (.lit (.str ⟨#[66, 76, 82]⟩)))) (.cons (.aug 1 .Add (.lit (.int 268435456))) .nil) .nil) (.cons (.ite (.or (.cmp .Eq (.loc 2) (.lit (.str ⟨#[66]⟩))) (.cmp .Eq (.loc 2) (.lit (.str ⟨#[66, 76]⟩)))) (.cons (.ret (.bin .Add (.bin .Add (.loc 1) (.lit (.int 536870912))) (.bin .Mod (.loc 4) (.lit (.int 16777216))))) .nil) .nil) (.cons (.ret (.bin .Add (.loc 1) (.loc 4))) .nil))))))
/-- signed: value, bits -/
noncomputable def b_signed : MSs := (.cons (.ite (.cmp .GtE (.loc 0) (.bin .LShift (.lit (.int 1)) (.bin .Sub (.loc 1) (.lit (.int 1))))) (.cons (.ret (.bin .Sub (.loc 0) (.bin .LShift (.lit (.int 1)) (.loc 1)))) .nil) .nil) (.cons (.ret (.loc 0)) .nil))
/-- operation_row: word, a, b, op, upper, name, im -/
noncomputable def b_operation_row : MSs := (.cons (.asg 1 (.bin .Mod (.bin .FloorDiv (.loc 0) (.lit (.int 16777216))) (.lit (.int 16)))) (.cons (.asg 2 (.bin .Mod (.bin .FloorDiv (.loc 0) (.lit (.int 1048576))) (.lit (.int 16)))) (.cons (.asg 3 (.bin .Mod (.bin .FloorDiv (.loc 0) (.lit (.int 65536))) (.lit (.int 16)))) (.cons (.asg 4 (.bin .Mod (.bin .FloorDiv (.loc 0) (.lit (.int 536870912))) (.lit (.int 2)))) (.cons (.ite (.cmp .GtE (.loc 3) (.len (.call 7 .nil))) (.cons (.rse (.lit (.str ⟨#[117, 110, 107, 110, 111, 119, 110, 32, 119, 111, 114, 100]⟩))) .nil) .nil) (.cons (.asg 5 (.item (.call 7 .nil) (.loc 3))) (.cons (.ite (.cmp .Lt (.loc 0) (.lit (.int 1073741824))) (.cons (.ite (.and (.cmp .Eq (.loc 4) (.lit (.int 1))) (.cmp .Eq (.loc 5) (.lit (.str ⟨#[77, 79, 86]⟩)))) (.cons (.ret (.tup (.cons (.lit (.str ⟨#[71, 69, 84, 72]⟩)) (.cons (.loc 1) (.cons (.loc 2) (.cons (.lit (.int 0)) .nil)))))) .nil) .nil) (.cons (.ret (.tup (.cons (.loc 5) (.cons (.loc 1) (.cons (.loc 2) (.cons (.bin .Mod (.loc 0) (.lit (.int 16))) .nil)))))) .nil)) .nil) (.cons (.ite (.and (.cmp .Eq (.loc 4) (.lit (.int 1))) (.cmp .Eq (.loc 5) (.lit (.str ⟨#[77, 79, 86]⟩)))) (.cons (.ret (.tup (.cons (.lit (.str ⟨#[77, 79, 86, 72]⟩)) (.cons (.loc 1) (.cons (.loc 2) (.cons (.bin .Mod (.loc 0) (.lit (.int 65536))) .nil)))))) .nil) .nil) (.cons (.asg 6 (.bin .Mod (.loc 0) (.lit (.int 65536)))) (.cons (.ite (.cmp .Eq (.bin .Mod (.bin .FloorDiv (.loc 0) (.lit (.int 268435456))) (.lit (.int 2))) (.lit (.int 1))) (.cons (.aug 6 .Sub (.lit (.int 65536))) .nil) .nil) (.cons (.ret (.tup (.cons (.bin .Add (.loc 5) (.lit (.str ⟨#[73]⟩))) (.cons (.loc 1) (.cons (.loc 2) (.cons (.loc 6) .nil)))))) .nil)))))))))))
/-- branch_row: word, cond, linked -/
noncomputable def b_branch_row : MSs := (.cons (.asg 1 (.item (.call 5 .nil) (.bin .Mod (.bin .FloorDiv (.loc 0) (.lit (.int 16777216))) (.lit (.int 16))))) (.cons (.asg 2 (.cmp .Eq (.bin .Mod (.bin .FloorDiv (.loc 0) (.lit (.int 268435456))) (.lit (.int 2))) (.lit (.int 1)))) (.cons (.ite (.cmp .Eq (.bin .Mod (.bin .FloorDiv (.loc 0) (.lit (.int 536870912))) (.lit (.int 2))) (.lit (.int 1))) (.cons (.ret (.tup (.cons (.ite (.loc 2) (.lit (.str ⟨#[66, 76]⟩)) (.lit (.str ⟨#[66]⟩))) (.cons (.loc 1) (.cons (.call 18 (.cons (.bin .Mod (.loc 0) (.lit (.int 16777216))) (.cons (.lit (.int 24)) .nil))) (.cons (.lit (.int 0)) .nil)))))) .nil) .nil) (.cons (.ite (.and (.loc 2) (.cmp .Eq (.bin .Mod (.loc 0) (.lit (.int 16))) (.lit (.int 12)))) (.cons (.ret (.tup (.cons (.lit (.str ⟨#[84, 82, 65, 80]⟩)) (.cons (.loc 1) (.cons (.bin .Mod (.bin .FloorDiv (.loc 0) (.lit (.int 16))) (.lit (.int 16))) (.cons (.bin .Mod (.bin .FloorDiv (.loc 0) (.lit (.int 256))) (.lit (.int 65536))) .nil)))))) .nil) .nil) (.cons (.ret (.tup (.cons (.ite (.loc 2) (.lit (.str ⟨#[66, 76, 82]⟩)) (.lit (.str ⟨#[66, 82]⟩))) (.cons (.loc 1) (.cons (.bin .Mod (.loc 0) (.lit (.int 16))) (.cons (.lit (.int 0)) .nil)))))) .nil)))))
/-- _law_names:  -/
noncomputable def b_law_names : MSs := (.cons (.ret (.lst (.cons (.lit (.str ⟨#[77, 79, 86]⟩)) (.cons (.lit (.str ⟨#[76, 83, 76]⟩)) (.cons (.lit (.str ⟨#[65, 83, 82]⟩)) (.cons (.lit (.str ⟨#[82, 79, 82]⟩)) (.cons (.lit (.str ⟨#[65, 78, 68]⟩)) (.cons (.lit (.str ⟨#[65, 78, 78]⟩)) (.cons (.lit (.str ⟨#[73, 79, 82]⟩)) (.cons (.lit (.str ⟨#[88, 79, 82]⟩)) (.cons (.lit (.str ⟨#[65, 68, 68]⟩)) (.cons (.lit (.str ⟨#[83, 85, 66]⟩)) (.cons (.lit (.str ⟨#[77, 85, 76]⟩)) (.cons (.lit (.str ⟨#[68, 73, 86]⟩)) .nil)))))))))))))) .nil)
/-- _law_conds:  -/
noncomputable def b_law_conds : MSs := (.cons (.ret (.lst (.cons (.lit (.str ⟨#[77, 73]⟩)) (.cons (.lit (.str ⟨#[69, 81]⟩)) (.cons (.lit (.str ⟨#[67, 83]⟩)) (.cons (.lit (.str ⟨#[86, 83]⟩)) (.cons (.lit (.str ⟨#[76, 83]⟩)) (.cons (.lit (.str ⟨#[76, 84]⟩)) (.cons (.lit (.str ⟨#[76, 69]⟩)) (.cons (.lit (.str ⟨#[65, 76]⟩)) (.cons (.lit (.str ⟨#[80, 76]⟩)) (.cons (.lit (.str ⟨#[78, 69]⟩)) (.cons (.lit (.str ⟨#[67, 67]⟩)) (.cons (.lit (.str ⟨#[86, 67]⟩)) (.cons (.lit (.str ⟨#[72, 73]⟩)) (.cons (.lit (.str ⟨#[71, 69]⟩)) (.cons (.lit (.str ⟨#[71, 84]⟩)) (.cons (.lit (.str ⟨#[78, 86]⟩)) .nil)))))))))))))))))) .nil)
/-- _law_big: row, low, high, kind -/
noncomputable def b_law_big : MSs := (.cons (.asg 3 (.bin .Mod (.call 0 (.cons (.loc 0) .nil)) (.lit (.int 6)))) (.cons (.ite (.cmp .Lt (.loc 3) (.lit (.int 2))) (.cons (.ret (.item (.lst (.cons (.loc 1) (.cons (.loc 2) .nil))) (.loc 3))) .nil) .nil) (.cons (.ite (.cmp .Eq (.loc 3) (.lit (.int 2))) (.cons (.ret (.ite (.cmp .Eq (.bin .Mod (.call 0 (.cons (.loc 0) .nil)) (.lit (.int 3))) (.lit (.int 2))) (.item (.lst (.cons (.bin .Sub (.loc 1) (.lit (.int 1))) (.cons (.bin .Add (.loc 2) (.lit (.int 1))) .nil))) (.bin .Mod (.call 0 (.cons (.loc 0) .nil)) (.lit (.int 2)))) (.lit (.int 0)))) .nil) .nil) (.cons (.ret (.bin .Add (.loc 1) (.bin .Mod (.bin .Add (.bin .Add (.bin .Mult (.call 0 (.cons (.loc 0) .nil)) (.bin .Pow (.lit (.int 2)) (.lit (.int 20)))) (.bin .Mult (.call 0 (.cons (.loc 0) .nil)) (.lit (.int 1024)))) (.call 0 (.cons (.loc 0) .nil))) (.bin .Add (.bin .Sub (.loc 2) (.loc 1)) (.lit (.int 1)))))) .nil))))
/-- _law_made: row, kind, a, b, cond, name -/
noncomputable def b_law_made : MSs := (.cons (.asg 1 (.bin .Mod (.call 0 (.cons (.loc 0) .nil)) (.lit (.int 9)))) (.cons (.asg 2 (.bin .Mod (.call 0 (.cons (.loc 0) .nil)) (.lit (.int 16)))) (.cons (.asg 3 (.bin .Mod (.call 0 (.cons (.loc 0) .nil)) (.lit (.int 16)))) (.cons (.asg 4 (.item (.call 22 .nil) (.bin .Mod (.call 0 (.cons (.loc 0) .nil)) (.lit (.int 16))))) (.cons (.ite (.cmp .Lt (.loc 1) (.lit (.int 2))) (.cons (.asg 5 (.item (.call 21 .nil) (.bin .Mod (.call 0 (.cons (.loc 0) .nil)) (.lit (.int 12))))) (.cons (.ret (.tup (.cons (.loc 5) (.cons (.loc 2) (.cons (.ite (.cmp .Eq (.loc 5) (.lit (.str ⟨#[77, 79, 86]⟩))) (.lit (.int 0)) (.loc 3)) (.cons (.bin .Mod (.call 0 (.cons (.loc 0) .nil)) (.lit (.int 17))) .nil)))))) .nil)) .nil) (.cons (.ite (.cmp .Lt (.loc 1) (.lit (.int 4))) (.cons (.asg 5 (.item (.call 21 .nil) (.bin .Mod (.call 0 (.cons (.loc 0) .nil)) (.lit (.int 12))))) (.cons (.ret (.tup (.cons (.bin .Add (.loc 5) (.lit (.str ⟨#[73]⟩))) (.cons (.loc 2) (.cons (.ite (.cmp .Eq (.loc 5) (.lit (.str ⟨#[77, 79, 86]⟩))) (.lit (.int 0)) (.loc 3)) (.cons (.call 23 (.cons (.loc 0) (.cons (.neg (.lit (.int 65536))) (.cons (.lit (.int 65535)) .nil)))) .nil)))))) .nil)) .nil) (.cons (.ite (.cmp .Eq (.loc 1) (.lit (.int 4))) (.cons (.ret (.item (.lst (.cons (.tup (.cons (.lit (.str ⟨#[77, 79, 86, 72]⟩)) (.cons (.loc 2) (.cons (.lit (.int 0)) (.cons (.call 23 (.cons (.loc 0) (.cons (.lit (.int 0)) (.cons (.lit (.int 65535)) .nil)))) .nil))))) (.cons (.tup (.cons (.lit (.str ⟨#[71, 69, 84, 72]⟩)) (.cons (.loc 2) (.cons (.lit (.int 0)) (.cons (.lit (.int 0)) .nil))))) .nil))) (.bin .Mod (.call 0 (.cons (.loc 0) .nil)) (.lit (.int 2))))) .nil) .nil) (.cons (.ite (.cmp .Eq (.loc 1) (.lit (.int 5))) (.cons (.ret (.tup (.cons (.item (.lst (.cons (.lit (.str ⟨#[76, 68, 82]⟩)) (.cons (.lit (.str ⟨#[76, 68, 66]⟩)) (.cons (.lit (.str ⟨#[83, 84, 82]⟩)) (.cons (.lit (.str ⟨#[83, 84, 66]⟩)) .nil))))) (.bin .Mod (.call 0 (.cons (.loc 0) .nil)) (.lit (.int 4)))) (.cons (.loc 2) (.cons (.loc 3) (.cons (.call 23 (.cons (.loc 0) (.cons (.neg (.bin .Pow (.lit (.int 2)) (.lit (.int 19)))) (.cons (.bin .Sub (.bin .Pow (.lit (.int 2)) (.lit (.int 19))) (.lit (.int 1))) .nil)))) .nil)))))) .nil) .nil) (.cons (.ite (.cmp .Eq (.loc 1) (.lit (.int 6))) (.cons (.ret (.tup (.cons (.item (.lst (.cons (.lit (.str ⟨#[66]⟩)) (.cons (.lit (.str ⟨#[66, 76]⟩)) .nil))) (.bin .Mod (.call 0 (.cons (.loc 0) .nil)) (.lit (.int 2)))) (.cons (.loc 4) (.cons (.call 23 (.cons (.loc 0) (.cons (.neg (.bin .Pow (.lit (.int 2)) (.lit (.int 23)))) (.cons (.bin .Sub (.bin .Pow (.lit (.int 2)) (.lit (.int 23))) (.lit (.int 1))) .nil)))) (.cons (.lit (.int 0)) .nil)))))) .nil) .nil) (.cons (.ite (.cmp .Eq (.loc 1) (.lit (.int 7))) (.cons (.ret (.tup (.cons (.item (.lst (.cons (.lit (.str ⟨#[66, 82]⟩)) (.cons (.lit (.str ⟨#[66, 76, 82]⟩)) .nil))) (.bin .Mod (.call 0 (.cons (.loc 0) .nil)) (.lit (.int 2)))) (.cons (.loc 4) (.cons (.loc 2) (.cons (.lit (.int 0)) .nil)))))) .nil) .nil) (.cons (.ret (.tup (.cons (.lit (.str ⟨#[84, 82, 65, 80]⟩)) (.cons (.loc 4) (.cons (.call 23 (.cons (.loc 0) (.cons (.lit (.int 0)) (.cons (.lit (.int 15)) .nil)))) (.cons (.call 23 (.cons (.loc 0) (.cons (.lit (.int 0)) (.cons (.lit (.int 65535)) .nil)))) .nil)))))) .nil)))))))))))
/-- _law_sound: row, name, a, b, c -/
noncomputable def b_law_sound : MSs := (.cons (.unp [1, 2, 3, 4] (.loc 0)) (.cons (.ite (.cmp .In (.loc 1) (.tup (.cons (.lit (.str ⟨#[66]⟩)) (.cons (.lit (.str ⟨#[66, 76]⟩)) .nil)))) (.cons (.ret (.and (.cmp2 .LtE .Lt (.neg (.bin .Pow (.lit (.int 2)) (.lit (.int 23)))) (.loc 3) (.bin .Pow (.lit (.int 2)) (.lit (.int 23)))) (.cmp .Eq (.loc 4) (.lit (.int 0))))) .nil) .nil) (.cons (.ite (.cmp .In (.loc 1) (.tup (.cons (.lit (.str ⟨#[66, 82]⟩)) (.cons (.lit (.str ⟨#[66, 76, 82]⟩)) .nil)))) (.cons (.ret (.and (.cmp2 .LtE .Lt (.lit (.int 0)) (.loc 3) (.lit (.int 16))) (.and (.cmp .Eq (.loc 4) (.lit (.int 0))) (.or (.cmp .Eq (.loc 1) (.lit (.str ⟨#[66, 82]⟩))) (.cmp .NotEq (.loc 3) (.lit (.int 12))))))) .nil) .nil) (.cons (.ite (.cmp .Eq (.loc 1) (.lit (.str ⟨#[84, 82, 65, 80]⟩))) (.cons (.ret (.and (.cmp2 .LtE .Lt (.lit (.int 0)) (.loc 3) (.lit (.int 16))) (.cmp2 .LtE .Lt (.lit (.int 0)) (.loc 4) (.lit (.int 65536))))) .nil) .nil) (.cons (.ite (.or (.not (.cmp2 .LtE .Lt (.lit (.int 0)) (.loc 2) (.lit (.int 16)))) (.or (.not (.cmp2 .LtE .Lt (.lit (.int 0)) (.loc 3) (.lit (.int 16)))) (.and (.cmp .In (.loc 1) (.tup (.cons (.lit (.str ⟨#[77, 79, 86]⟩)) (.cons (.lit (.str ⟨#[77, 79, 86, 73]⟩)) (.cons (.lit (.str ⟨#[77, 79, 86, 72]⟩)) (.cons (.lit (.str ⟨#[71, 69, 84, 72]⟩)) .nil)))))) (.cmp .NotEq (.loc 3) (.lit (.int 0)))))) (.cons (.ret (.lit (.bool false))) .nil) .nil) (.cons (.ite (.cmp .In (.loc 1) (.tup (.cons (.lit (.str ⟨#[76, 68, 82]⟩)) (.cons (.lit (.str ⟨#[76, 68, 66]⟩)) (.cons (.lit (.str ⟨#[83, 84, 82]⟩)) (.cons (.lit (.str ⟨#[83, 84, 66]⟩)) .nil)))))) (.cons (.ret (.cmp2 .LtE .Lt (.neg (.bin .Pow (.lit (.int 2)) (.lit (.int 19)))) (.loc 4) (.bin .Pow (.lit (.int 2)) (.lit (.int 19))))) .nil) .nil) (.cons (.ite (.cmp .In (.loc 1) (.tup (.cons (.lit (.str ⟨#[71, 69, 84, 72]⟩)) (.cons (.lit (.str ⟨#[77, 79, 86, 72]⟩)) .nil)))) (.cons (.ret (.cmp2 .LtE .Lt (.lit (.int 0)) (.loc 4) (.ite (.cmp .Eq (.loc 1) (.lit (.str ⟨#[71, 69, 84, 72]⟩))) (.lit (.int 1)) (.lit (.int 65536))))) .nil) .nil) (.cons (.ret (.ite (.cmp .In (.loc 1) (.call 21 .nil)) (.cmp2 .LtE .Lt (.lit (.int 0)) (.loc 4) (.lit (.int 16))) (.cmp2 .LtE .Lt (.neg (.lit (.int 65536))) (.loc 4) (.lit (.int 65536))))) .nil))))))))
/-- _law_word: row, word, name, a, b, c -/
noncomputable def b_law_word : MSs := (.cons (.unp [2, 3, 4, 5] (.loc 0)) (.cons (.ite (.cmp .In (.loc 2) (.tup (.cons (.lit (.str ⟨#[66]⟩)) (.cons (.lit (.str ⟨#[66, 76]⟩)) (.cons (.lit (.str ⟨#[66, 82]⟩)) (.cons (.lit (.str ⟨#[66, 76, 82]⟩)) (.cons (.lit (.str ⟨#[84, 82, 65, 80]⟩)) .nil))))))) (.cons (.asg 1 (.bin .Add (.bin .Add (.bin .Mult (.lit (.int 3)) (.bin .Pow (.lit (.int 2)) (.lit (.int 30)))) (.bin .Mult (.index (.call 22 .nil) (.loc 3)) (.bin .Pow (.lit (.int 2)) (.lit (.int 24))))) (.ite (.cmp .In (.loc 2) (.tup (.cons (.lit (.str ⟨#[66, 76]⟩)) (.cons (.lit (.str ⟨#[66, 76, 82]⟩)) (.cons (.lit (.str ⟨#[84, 82, 65, 80]⟩)) .nil))))) (.bin .Pow (.lit (.int 2)) (.lit (.int 28))) (.lit (.int 0))))) (.cons (.ite (.cmp .In (.loc 2) (.tup (.cons (.lit (.str ⟨#[66]⟩)) (.cons (.lit (.str ⟨#[66, 76]⟩)) .nil)))) (.cons (.ret (.bin .Add (.bin .Add (.loc 1) (.bin .Pow (.lit (.int 2)) (.lit (.int 29)))) (.bin .Mod (.loc 4) (.bin .Pow (.lit (.int 2)) (.lit (.int 24)))))) .nil) .nil) (.cons (.ret (.bin .Add (.loc 1) (.ite (.cmp .Eq (.loc 2) (.lit (.str ⟨#[84, 82, 65, 80]⟩))) (.bin .Add (.bin .Add (.bin .Mult (.loc 5) (.lit (.int 256))) (.bin .Mult (.loc 4) (.lit (.int 16)))) (.lit (.int 12))) (.loc 4)))) .nil))) .nil) (.cons (.asg 1 (.bin .Add (.bin .Mult (.loc 3) (.bin .Pow (.lit (.int 2)) (.lit (.int 24)))) (.bin .Mult (.loc 4) (.bin .Pow (.lit (.int 2)) (.lit (.int 20)))))) (.cons (.ite (.cmp .In (.loc 2) (.tup (.cons (.lit (.str ⟨#[76, 68, 82]⟩)) (.cons (.lit (.str ⟨#[76, 68, 66]⟩)) (.cons (.lit (.str ⟨#[83, 84, 82]⟩)) (.cons (.lit (.str ⟨#[83, 84, 66]⟩)) .nil)))))) (.cons (.ret (.bin .Add (.bin .Add (.bin .Add (.bin .Add (.loc 1) (.bin .Pow (.lit (.int 2)) (.lit (.int 31)))) (.ite (.cmp .Eq (.item (.loc 2) (.lit (.int 0))) (.lit (.str ⟨#[83]⟩))) (.bin .Pow (.lit (.int 2)) (.lit (.int 29))) (.lit (.int 0)))) (.ite (.cmp .Eq (.item (.loc 2) (.lit (.int 2))) (.lit (.str ⟨#[66]⟩))) (.bin .Pow (.lit (.int 2)) (.lit (.int 28))) (.lit (.int 0)))) (.bin .Mod (.loc 5) (.bin .Pow (.lit (.int 2)) (.lit (.int 20)))))) .nil) .nil) (.cons (.ite (.cmp .Eq (.loc 2) (.lit (.str ⟨#[71, 69, 84, 72]⟩))) (.cons (.ret (.bin .Add (.loc 1) (.bin .Pow (.lit (.int 2)) (.lit (.int 29))))) .nil) .nil) (.cons (.ite (.cmp .Eq (.loc 2) (.lit (.str ⟨#[77, 79, 86, 72]⟩))) (.cons (.ret (.bin .Add (.bin .Add (.bin .Add (.loc 1) (.bin .Pow (.lit (.int 2)) (.lit (.int 30)))) (.bin .Pow (.lit (.int 2)) (.lit (.int 29)))) (.loc 5))) .nil) .nil) (.cons (.ite (.cmp .In (.loc 2) (.call 21 .nil)) (.cons (.ret (.bin .Add (.bin .Add (.loc 1) (.bin .Mult (.index (.call 21 .nil) (.loc 2)) (.lit (.int 65536)))) (.loc 5))) .nil) .nil) (.cons (.ret (.bin .Add (.bin .Add (.bin .Add (.bin .Add (.loc 1) (.bin .Pow (.lit (.int 2)) (.lit (.int 30)))) (.ite (.cmp .Lt (.loc 5) (.lit (.int 0))) (.bin .Pow (.lit (.int 2)) (.lit (.int 28))) (.lit (.int 0)))) (.bin .Mult (.index (.call 21 .nil) (.cut (.loc 2))) (.lit (.int 65536)))) (.bin .Mod (.loc 5) (.lit (.int 65536))))) .nil))))))))
/-- _law_read: word, top, u, v, a, b, op, name, cond, off -/
noncomputable def b_law_read : MSs := (.cons (.asg 1 (.bin .FloorDiv (.loc 0) (.bin .Pow (.lit (.int 2)) (.lit (.int 30))))) (.cons (.asg 2 (.bin .Mod (.bin .FloorDiv (.loc 0) (.bin .Pow (.lit (.int 2)) (.lit (.int 29)))) (.lit (.int 2)))) (.cons (.asg 3 (.bin .Mod (.bin .FloorDiv (.loc 0) (.bin .Pow (.lit (.int 2)) (.lit (.int 28)))) (.lit (.int 2)))) (.cons (.asg 4 (.bin .Mod (.bin .FloorDiv (.loc 0) (.bin .Pow (.lit (.int 2)) (.lit (.int 24)))) (.lit (.int 16)))) (.cons (.asg 5 (.bin .Mod (.bin .FloorDiv (.loc 0) (.bin .Pow (.lit (.int 2)) (.lit (.int 20)))) (.lit (.int 16)))) (.cons (.asg 6 (.bin .Mod (.bin .FloorDiv (.loc 0) (.lit (.int 65536))) (.lit (.int 16)))) (.cons (.ite (.cmp .Eq (.loc 1) (.lit (.int 3))) (.cons (.asg 8 (.item (.call 22 .nil) (.loc 4))) (.cons (.ite (.cmp .Eq (.loc 2) (.lit (.int 1))) (.cons (.asg 9 (.bin .Mod (.loc 0) (.bin .Pow (.lit (.int 2)) (.lit (.int 24))))) (.cons (.ret (.tup (.cons (.item (.lst (.cons (.lit (.str ⟨#[66]⟩)) (.cons (.lit (.str ⟨#[66, 76]⟩)) .nil))) (.loc 3)) (.cons (.loc 8) (.cons (.ite (.cmp .GtE (.loc 9) (.bin .Pow (.lit (.int 2)) (.lit (.int 23)))) (.bin .Sub (.loc 9) (.bin .Pow (.lit (.int 2)) (.lit (.int 24)))) (.loc 9)) (.cons (.lit (.int 0)) .nil)))))) .nil)) .nil) (.cons (.ite (.and (.cmp .Eq (.loc 3) (.lit (.int 1))) (.cmp .Eq (.bin .Mod (.loc 0) (.lit (.int 16))) (.lit (.int 12)))) (.cons (.ret (.tup (.cons (.lit (.str ⟨#[84, 82, 65, 80]⟩)) (.cons (.loc 8) (.cons (.bin .Mod (.bin .FloorDiv (.loc 0) (.lit (.int 16))) (.lit (.int 16))) (.cons (.bin .Mod (.bin .FloorDiv (.loc 0) (.lit (.int 256))) (.lit (.int 65536))) .nil)))))) .nil) .nil) (.cons (.ret (.tup (.cons (.item (.lst (.cons (.lit (.str ⟨#[66, 82]⟩)) (.cons (.lit (.str ⟨#[66, 76, 82]⟩)) .nil))) (.loc 3)) (.cons (.loc 8) (.cons (.bin .Mod (.loc 0) (.lit (.int 16))) (.cons (.lit (.int 0)) .nil)))))) .nil)))) .nil) (.cons (.ite (.cmp .Eq (.loc 1) (.lit (.int 2))) (.cons (.asg 9 (.bin .Mod (.loc 0) (.bin .Pow (.lit (.int 2)) (.lit (.int 20))))) (.cons (.ret (.tup (.cons (.item (.lst (.cons (.lit (.str ⟨#[76, 68, 82]⟩)) (.cons (.lit (.str ⟨#[76, 68, 66]⟩)) (.cons (.lit (.str ⟨#[83, 84, 82]⟩)) (.cons (.lit (.str ⟨#[83, 84, 66]⟩)) .nil))))) (.bin .Add (.bin .Mult (.lit (.int 2)) (.loc 2)) (.loc 3))) (.cons (.loc 4) (.cons (.loc 5) (.cons (.ite (.cmp .GtE (.loc 9) (.bin .Pow (.lit (.int 2)) (.lit (.int 19)))) (.bin .Sub (.loc 9) (.bin .Pow (.lit (.int 2)) (.lit (.int 20)))) (.loc 9)) .nil)))))) .nil)) .nil) (.cons (.ite (.cmp .Gt (.loc 6) (.lit (.int 11))) (.cons (.ret (.lit .none)) .nil) .nil) (.cons (.asg 7 (.item (.call 21 .nil) (.loc 6))) (.cons (.ite (.cmp .Eq (.loc 2) (.lit (.int 1))) (.cons (.ret (.ite (.cmp .Eq (.loc 6) (.lit (.int 0))) (.tup (.cons (.ite (.cmp .Eq (.loc 1) (.lit (.int 0))) (.lit (.str ⟨#[71, 69, 84, 72]⟩)) (.lit (.str ⟨#[77, 79, 86, 72]⟩))) (.cons (.loc 4) (.cons (.loc 5) (.cons (.ite (.cmp .Eq (.loc 1) (.lit (.int 0))) (.lit (.int 0)) (.bin .Mod (.loc 0) (.lit (.int 65536)))) .nil))))) (.lit .none))) .nil) .nil) (.cons (.ret (.ite (.cmp .Eq (.loc 1) (.lit (.int 0))) (.tup (.cons (.loc 7) (.cons (.loc 4) (.cons (.loc 5) (.cons (.bin .Mod (.loc 0) (.lit (.int 16))) .nil))))) (.tup (.cons (.bin .Add (.loc 7) (.lit (.str ⟨#[73]⟩))) (.cons (.loc 4) (.cons (.loc 5) (.cons (.bin .Sub (.bin .Mod (.loc 0) (.lit (.int 65536))) (.bin .Mult (.lit (.int 65536)) (.loc 3))) .nil))))))) .nil))))))))))))
/-- law: script, row, at, lap, odd, wrong_x, far, made, sound, word, due, spot -/
noncomputable def b_law : MSs := (.cons (.ite (.cmp .NotEq (.call 5 .nil) (.call 22 .nil)) (.cons (.ret (.lit (.bool false))) .nil) .nil) (.cons (.forR 2 (.lit (.int 16)) (.cons (.ite (.cmp .NotEq (.call 6 (.cons (.item (.call 22 .nil) (.loc 2)) .nil)) (.item (.call 22 .nil) (.bin .Mod (.bin .Add (.loc 2) (.lit (.int 8))) (.lit (.int 16))))) (.cons (.ret (.lit (.bool false))) .nil) .nil) .nil)) (.cons (.forR 3 (.bin .Add (.lit (.int 1)) (.bin .Mod (.call 0 (.cons (.loc 1) .nil)) (.lit (.int 3)))) (.cons (.asg 7 (.call 24 (.cons (.loc 1) .nil))) (.cons (.asg 8 (.call 25 (.cons (.loc 7) .nil))) (.cons (.ite (.or (.cmp .NotEq (.cmp .Eq (.call 15 (.cons (.loc 7) .nil)) (.lit (.str ⟨#[]⟩))) (.loc 8)) (.cmp .NotEq (.call 1 (.cons (.loc 7) .nil)) (.ite (.loc 8) (.call 26 (.cons (.loc 7) .nil)) (.lit (.str ⟨#[98, 97, 100]⟩))))) (.cons (.ret (.lit (.bool false))) .nil) .nil) (.cons (.asg 9 (.bin .Mod (.bin .Add (.bin .Add (.bin .Mult (.call 0 (.cons (.loc 1) .nil)) (.bin .Pow (.lit (.int 2)) (.lit (.int 22)))) (.bin .Mult (.call 0 (.cons (.loc 1) .nil)) (.bin .Pow (.lit (.int 2)) (.lit (.int 11))))) (.call 0 (.cons (.loc 1) .nil))) (.bin .Pow (.lit (.int 2)) (.lit (.int 32))))) (.cons (.ite (.loc 8) (.cons (.ite (.cmp .NotEq (.call 4 (.cons (.call 26 (.cons (.loc 7) .nil)) .nil)) (.loc 7)) (.cons (.ret (.lit (.bool false))) .nil) .nil) (.cons (.ite (.cmp .Eq (.bin .Mod (.call 0 (.cons (.loc 1) .nil)) (.lit (.int 2))) (.lit (.int 1))) (.cons (.asg 11 (.bin .Pow (.lit (.int 2)) (.bin .Mod (.call 0 (.cons (.loc 1) .nil)) (.lit (.int 32))))) (.cons (.asg 9 (.bin .BitXor (.call 26 (.cons (.loc 7) .nil)) (.loc 11))) .nil)) .nil) .nil)) .nil) (.cons (.asg 10 (.call 27 (.cons (.loc 9) .nil))) (.cons (.ite (.or (.cmp .Is (.loc 10) (.lit .none)) (.or (.not (.call 25 (.cons (.loc 10) .nil))) (.cmp .NotEq (.call 26 (.cons (.loc 10) .nil)) (.loc 9)))) (.cons (.asg 10 (.lit (.str ⟨#[98, 97, 100]⟩))) .nil) .nil) (.cons (.ite (.cmp .NotEq (.call 2 (.cons (.loc 9) .nil)) (.loc 10)) (.cons (.ret (.lit (.bool false))) .nil) .nil) .nil))))))))) (.cons (.asg 4 (.lst (.cons (.tup (.cons (.lit (.str ⟨#[65, 68, 68]⟩)) (.cons (.lit (.int 1)) (.cons (.lit (.int 2)) .nil)))) (.cons (.tup (.cons (.lit (.str ⟨#[65, 68, 68, 73]⟩)) (.cons (.lit (.int 1)) (.cons (.lit (.int 2)) (.cons (.lit (.str ⟨#[120]⟩)) .nil))))) (.cons (.tup (.cons (.lit (.str ⟨#[70, 76, 89]⟩)) (.cons (.lit (.int 0)) (.cons (.lit (.int 0)) (.cons (.lit (.int 0)) .nil))))) (.cons (.tup (.cons (.lit (.str ⟨#[66]⟩)) (.cons (.lit (.str ⟨#[88, 88]⟩)) (.cons (.lit (.int 0)) (.cons (.lit (.int 0)) .nil))))) (.cons (.tup (.cons (.lit (.str ⟨#[77, 79, 86]⟩)) (.cons (.lit (.int 0)) (.cons (.lit (.int 1)) (.cons (.lit (.int 0)) .nil))))) (.cons (.tup (.cons (.lit (.int 1)) (.cons (.lit (.int 0)) (.cons (.lit (.int 0)) (.cons (.lit (.int 0)) .nil))))) (.cons (.lst (.cons (.lit (.str ⟨#[66]⟩)) (.cons (.lit (.str ⟨#[65, 76]⟩)) (.cons (.lit (.int 0)) (.cons (.lit (.int 0)) .nil))))) .nil))))))))) (.cons (.forL 5 (.bin .Add (.loc 4) (.lst (.cons (.tup (.cons (.lit (.str ⟨#[76, 68, 82]⟩)) (.cons (.lit (.int 16)) (.cons (.lit (.int 0)) (.cons (.lit (.int 0)) .nil))))) (.cons (.tup (.cons (.lit (.str ⟨#[65, 68, 68]⟩)) (.cons (.lit (.bool true)) (.cons (.lit (.int 0)) (.cons (.lit (.int 0)) .nil))))) .nil)))) (.cons (.ite (.or (.cmp .Eq (.call 15 (.cons (.loc 5) .nil)) (.lit (.str ⟨#[]⟩))) (.cmp .NotEq (.call 1 (.cons (.loc 5) .nil)) (.lit (.str ⟨#[98, 97, 100]⟩)))) (.cons (.ret (.lit (.bool false))) .nil) .nil) .nil)) (.cons (.asg 6 (.ite (.cmp .NotEq (.loc 0) (.lst .nil)) (.item (.loc 0) (.lit (.int 0))) (.neg (.lit (.int 1))))) (.cons (.ret (.or (.cmp2 .LtE .Lt (.lit (.int 0)) (.loc 6) (.bin .Pow (.lit (.int 2)) (.lit (.int 32)))) (.cmp .Eq (.call 2 (.cons (.loc 6) .nil)) (.lit (.str ⟨#[98, 97, 100]⟩))))) .nil)))))))
noncomputable def tab : Nat → Option Fn
  | 3 => some ⟨1, 4, b_encode⟩
  | 4 => some ⟨1, 3, b_decode⟩
  | 5 => some ⟨0, 0, b_conditions⟩
  | 6 => some ⟨1, 2, b_negate⟩
  | 7 => some ⟨0, 0, b_operations⟩
  | 8 => some ⟨0, 0, b_memory_names⟩
  | 9 => some ⟨3, 3, b_is_whole⟩
  | 10 => some ⟨1, 1, b_is_register⟩
  | 11 => some ⟨1, 1, b_immediate_operation⟩
  | 12 => some ⟨1, 5, b_operation_fault⟩
  | 13 => some ⟨1, 1, b_memory_fault⟩
  | 14 => some ⟨1, 5, b_branch_fault⟩
  | 15 => some ⟨1, 2, b_row_fault⟩
  | 16 => some ⟨1, 6, b_operation_word⟩
  | 17 => some ⟨1, 6, b_branch_word⟩
  | 18 => some ⟨2, 2, b_signed⟩
  | 19 => some ⟨1, 7, b_operation_row⟩
  | 20 => some ⟨1, 3, b_branch_row⟩
  | 21 => some ⟨0, 0, b_law_names⟩
  | 22 => some ⟨0, 0, b_law_conds⟩
  | 23 => some ⟨3, 4, b_law_big⟩
  | 24 => some ⟨1, 6, b_law_made⟩
  | 25 => some ⟨1, 5, b_law_sound⟩
  | 26 => some ⟨1, 6, b_law_word⟩
  | 27 => some ⟨1, 10, b_law_read⟩
  | _ => none
noncomputable def nameOf : Nat → Str
  | 0 => Str.ofString "_law_next"
  | 1 => Str.ofString "_law_encoded"
  | 2 => Str.ofString "_law_decoded"
  | 3 => Str.ofString "encode"
  | 4 => Str.ofString "decode"
  | 5 => Str.ofString "conditions"
  | 6 => Str.ofString "negate"
  | 7 => Str.ofString "operations"
  | 8 => Str.ofString "memory_names"
  | 9 => Str.ofString "is_whole"
  | 10 => Str.ofString "is_register"
  | 11 => Str.ofString "immediate_operation"
  | 12 => Str.ofString "operation_fault"
  | 13 => Str.ofString "memory_fault"
  | 14 => Str.ofString "branch_fault"
  | 15 => Str.ofString "row_fault"
  | 16 => Str.ofString "operation_word"
  | 17 => Str.ofString "branch_word"
  | 18 => Str.ofString "signed"
  | 19 => Str.ofString "operation_row"
  | 20 => Str.ofString "branch_row"
  | 21 => Str.ofString "_law_names"
  | 22 => Str.ofString "_law_conds"
  | 23 => Str.ofString "_law_big"
  | 24 => Str.ofString "_law_made"
  | 25 => Str.ofString "_law_sound"
  | 26 => Str.ofString "_law_word"
  | 27 => Str.ofString "_law_read"
  | 28 => Str.ofString "law"
  | _ => Str.ofString ""
noncomputable def slotsOf : Nat → List Str
  | 3 => [Str.ofString "row", Str.ofString "fault", Str.ofString "name", Str.ofString "word"]
  | 4 => [Str.ofString "word", Str.ofString "row", Str.ofString "name"]
  | 5 => []
  | 6 => [Str.ofString "cond", Str.ofString "names"]
  | 7 => []
  | 8 => []
  | 9 => [Str.ofString "value", Str.ofString "low", Str.ofString "high"]
  | 10 => [Str.ofString "value"]
  | 11 => [Str.ofString "name"]
  | 12 => [Str.ofString "row", Str.ofString "name", Str.ofString "a", Str.ofString "b", Str.ofString "c"]
  | 13 => [Str.ofString "row"]
  | 14 => [Str.ofString "row", Str.ofString "name", Str.ofString "cond", Str.ofString "c", Str.ofString "last"]
  | 15 => [Str.ofString "row", Str.ofString "name"]
  | 16 => [Str.ofString "row", Str.ofString "fields", Str.ofString "name", Str.ofString "a", Str.ofString "b", Str.ofString "c"]
  | 17 => [Str.ofString "row", Str.ofString "word", Str.ofString "name", Str.ofString "cond", Str.ofString "c", Str.ofString "last"]
  | 18 => [Str.ofString "value", Str.ofString "bits"]
  | 19 => [Str.ofString "word", Str.ofString "a", Str.ofString "b", Str.ofString "op", Str.ofString "upper", Str.ofString "name", Str.ofString "im"]
  | 20 => [Str.ofString "word", Str.ofString "cond", Str.ofString "linked"]
  | 21 => []
  | 22 => []
  | 23 => [Str.ofString "row", Str.ofString "low", Str.ofString "high", Str.ofString "kind"]
  | 24 => [Str.ofString "row", Str.ofString "kind", Str.ofString "a", Str.ofString "b", Str.ofString "cond", Str.ofString "name"]
  | 25 => [Str.ofString "row", Str.ofString "name", Str.ofString "a", Str.ofString "b", Str.ofString "c"]
  | 26 => [Str.ofString "row", Str.ofString "word", Str.ofString "name", Str.ofString "a", Str.ofString "b", Str.ofString "c"]
  | 27 => [Str.ofString "word", Str.ofString "top", Str.ofString "u", Str.ofString "v", Str.ofString "a", Str.ofString "b", Str.ofString "op", Str.ofString "name", Str.ofString "cond", Str.ofString "off"]
  | 28 => [Str.ofString "script", Str.ofString "row", Str.ofString "at", Str.ofString "lap", Str.ofString "odd", Str.ofString "wrong_x", Str.ofString "far", Str.ofString "made", Str.ofString "sound", Str.ofString "word", Str.ofString "due", Str.ofString "spot"]
  | _ => []
end Mine

end

-- VC
section
open PySem PySem.W PyProof.Rows
namespace Mine

noncomputable def oneP (r : Out) (P : Out → Prop) (g : PyData → Nat → Prop) : Prop := match r with
  | .ok (.d x) k => g x k
  | .exc k => P (.exc k)
  | _ => P .bad
noncomputable def tstP (r : Out) (P : Out → Prop) (y n : Nat → Prop) : Prop := match r with
  | .ok (.d (.bool b)) k => (match b with
    | true => y k
    | false => n k)
  | .exc k => P (.exc k)
  | _ => P .bad

mutual
noncomputable def wE (call : Nat → List V → Nat → Out) (ρ : List V) : ME → Nat → (Out → Prop) → Prop
  | .loc i, k, P => (match ρ[i]? with
    | some (.d x) => P (.ok (.d x) k)
    | some .row => P (.ok .row k)
    | _ => P .bad)
  | .lit x, k, P => P (.ok (.d x) k)
  | .bin o a b, k, P => wE call ρ a k fun r => oneP r P fun x k => wE call ρ b k fun r => oneP r P fun y k => P (ofO k (binD o x y))
  | .neg a, k, P => wE call ρ a k fun r => oneP r P fun x k => (match x with
    | .int i => P (.ok (.d (.int (-i))) k)
    | _ => P .bad)
  | .not a, k, P => wE call ρ a k fun r => oneP r P fun x k => (match x with
    | .bool b => P (.ok (.d (.bool (!b))) k)
    | _ => P .bad)
  | .cmp o a b, k, P => wE call ρ a k fun r => oneP r P fun x k => wE call ρ b k fun r => oneP r P fun y k => P (ofB k (cmpD o x y))
  | .cmp2 o1 o2 a b c, k, P => wE call ρ a k fun r => oneP r P fun x k => wE call ρ b k fun r => oneP r P fun y k => tstP (ofB k (cmpD o1 x y)) P (fun k => wE call ρ c k fun r => oneP r P fun z k => P (ofB k (cmpD o2 y z))) (fun k => P (.ok (.d (.bool false)) k))
  | .and a b, k, P => wE call ρ a k fun r => tstP r P (fun k => wE call ρ b k P) (fun k => P (.ok (.d (.bool false)) k))
  | .or a b, k, P => wE call ρ a k fun r => tstP r P (fun k => P (.ok (.d (.bool true)) k)) (fun k => wE call ρ b k P)
  | .ite t a b, k, P => wE call ρ t k fun r => tstP r P (fun k => wE call ρ a k P) (fun k => wE call ρ b k P)
  | .tup l, k, P => wEs call ρ l k fun r => (match r with
    | .ok vs k => (match data vs with
      | some xs => P (.ok (.d (.tuple xs)) k)
      | none => P .bad)
    | .exc k => P (.exc k)
    | .bad => P .bad)
  | .lst l, k, P => wEs call ρ l k fun r => (match r with
    | .ok vs k => (match data vs with
      | some xs => P (.ok (.d (.list xs)) k)
      | none => P .bad)
    | .exc k => P (.exc k)
    | .bad => P .bad)
  | .item a i, k, P => wE call ρ a k fun r => oneP r P fun x k => wE call ρ i k fun r => oneP r P fun y k => P (ofO k (itemD x y))
  | .cut a, k, P => wE call ρ a k fun r => oneP r P fun x k => P (ofO k (cutD x))
  | .call f l, k, P => wEs call ρ l k fun r => (match r with
    | .ok vs k => P (call f vs k)
    | .exc k => P (.exc k)
    | .bad => P .bad)
  | .isi T a, k, P => wE call ρ a k fun r => oneP r P fun x k => P (ofB k (isiD T x))
  | .len a, k, P => wE call ρ a k fun r => oneP r P fun x k => (match lenD x with
    | some n => P (.ok (.d (.int n)) k)
    | none => P .bad)
  | .index a b, k, P => wE call ρ a k fun r => oneP r P fun x k => (match isLst x with
    | true => wE call ρ b k fun r => oneP r P fun y k => (match idxD x y with
      | some j => P (.ok (.d (.int (Int.ofNat j))) k)
      | none => P .bad)
    | false => P .bad)
  | .endI a, k, P => wE call ρ a k fun r => oneP r P fun x k => (match x with
    | .str s => P (.ok (.d (.bool (lastIs 73 s.cps.toList))) k)
    | _ => P .bad)
noncomputable def wEs (call : Nat → List V → Nat → Out) (ρ : List V) : MEs → Nat → (Outs → Prop) → Prop
  | .nil, k, P => P (.ok [] k)
  | .cons a r, k, P => wE call ρ a k fun o => (match o with
    | .ok v k => wEs call ρ r k fun q => (match q with
      | .ok vs k => P (.ok (v :: vs) k)
      | .exc k => P (.exc k)
      | .bad => P .bad)
    | .exc k => P (.exc k)
    | .bad => P .bad)
end

theorem oneP_of {r : Out} {P : Out → Prop} {g : PyData → Nat → Prop} {f : PyData → Nat → Out} (hg : ∀ x k, g x k → P (f x k)) (h : oneP r P g) : P (one r f) := by
  unfold oneP at h
  unfold one
  split at h
  · exact hg _ _ h
  · exact h
  · rename_i h1 h2
    first
    | exact h
    | (split <;> first | exact h | exact absurd rfl (h1 _ _) | exact absurd rfl (h2 _))
theorem tstP_of {r : Out} {P : Out → Prop} {y n : Nat → Prop} {fy fn : Nat → Out} (hy : ∀ k, y k → P (fy k)) (hn : ∀ k, n k → P (fn k)) (h : tstP r P y n) : P (tst r fy fn) := by
  unfold tstP at h
  unfold tst
  split at h
  · split at h
    · exact hy _ h
    · exact hn _ h
  · exact h
  · rename_i h1 h2
    first
    | exact h
    | (split <;> first | exact h | exact absurd rfl (h1 _ _) | exact absurd rfl (h2 _))

mutual
theorem wE_of (call : Nat → List V → Nat → Out) (ρ : List V) : ∀ (e : ME) (k : Nat) (P : Out → Prop), wE call ρ e k P → P (evE call ρ e k)
  | .loc i, k, P, h => by
    simp only [wE] at h
    simp only [evE]
    split at h <;> first | exact h | (simp_all)
  | .lit x, k, P, h => h
  | .bin o a b, k, P, h => wE_of call ρ a k _ h |> oneP_of fun x k h => wE_of call ρ b k _ h |> oneP_of fun y k h => h
  | .neg a, k, P, h => wE_of call ρ a k _ h |> oneP_of fun x k h => by revert h; cases x <;> exact id
  | .not a, k, P, h => wE_of call ρ a k _ h |> oneP_of fun x k h => by revert h; cases x <;> exact id
  | .cmp o a b, k, P, h => wE_of call ρ a k _ h |> oneP_of fun x k h => wE_of call ρ b k _ h |> oneP_of fun y k h => h
  | .cmp2 o1 o2 a b c, k, P, h => wE_of call ρ a k _ h |> oneP_of fun x k h => wE_of call ρ b k _ h |> oneP_of fun y k h => tstP_of (fun k h => wE_of call ρ c k _ h |> oneP_of fun z k h => h) (fun k h => h) h
  | .and a r, k, P, h => wE_of call ρ a k _ h |> tstP_of (fun k h => wE_of call ρ r k _ h) fun k h => h
  | .or a r, k, P, h => wE_of call ρ a k _ h |> tstP_of (fun k h => h) fun k h => wE_of call ρ r k _ h
  | .ite t a b, k, P, h => wE_of call ρ t k _ h |> tstP_of (fun k h => wE_of call ρ a k _ h) fun k h => wE_of call ρ b k _ h
  | .tup l, k, P, h => by
    have h1 := wEs_of call ρ l k _ h
    simp only [evE]
    revert h1
    cases evEs call ρ l k with
    | ok vs k => dsimp only; cases data vs <;> exact id
    | exc k => exact id
    | bad => exact id
  | .lst l, k, P, h => by
    have h1 := wEs_of call ρ l k _ h
    simp only [evE]
    revert h1
    cases evEs call ρ l k with
    | ok vs k => dsimp only; cases data vs <;> exact id
    | exc k => exact id
    | bad => exact id
  | .item a i, k, P, h => wE_of call ρ a k _ h |> oneP_of fun x k h => wE_of call ρ i k _ h |> oneP_of fun y k h => h
  | .cut a, k, P, h => wE_of call ρ a k _ h |> oneP_of fun x k h => h
  | .call f l, k, P, h => by
    have h1 := wEs_of call ρ l k _ h
    simp only [evE]
    revert h1
    cases evEs call ρ l k <;> exact id
  | .isi T a, k, P, h => wE_of call ρ a k _ h |> oneP_of fun x k h => h
  | .len a, k, P, h => wE_of call ρ a k _ h |> oneP_of fun x k h => by revert h; cases lenD x <;> exact id
  | .index a b, k, P, h => wE_of call ρ a k _ h |> oneP_of fun x k h => by
    revert h
    cases isLst x with
    | true => exact fun h => wE_of call ρ b k _ h |> oneP_of fun y k h => by revert h; cases idxD x y <;> exact id
    | false => exact id
  | .endI a, k, P, h => wE_of call ρ a k _ h |> oneP_of fun x k h => by revert h; cases x <;> exact id
theorem wEs_of (call : Nat → List V → Nat → Out) (ρ : List V) : ∀ (l : MEs) (k : Nat) (P : Outs → Prop), wEs call ρ l k P → P (evEs call ρ l k)
  | .nil, k, P, h => h
  | .cons a r, k, P, h => by
    have h1 := wE_of call ρ a k _ h
    simp only [evEs]
    revert h1
    cases evE call ρ a k with
    | ok v k =>
      intro h1
      have h2 := wEs_of call ρ r k _ h1
      revert h2
      dsimp only
      cases evEs call ρ r k <;> exact id
    | exc k => exact id
    | bad => exact id
end

noncomputable def tstRP (r : Out) (P : Res → Prop) (y n : Nat → Prop) : Prop := match r with
  | .ok (.d (.bool b)) k => (match b with
    | true => y k
    | false => n k)
  | .exc k => P (.exc k)
  | _ => P .bad
theorem tstRP_of {r : Out} {P : Res → Prop} {y n : Nat → Prop} {fy fn : Nat → Res} (hy : ∀ k, y k → P (fy k)) (hn : ∀ k, n k → P (fn k)) (h : tstRP r P y n) : P (tstR r fy fn) := by
  unfold tstRP at h
  unfold tstR
  split at h
  · split at h
    · exact hy _ h
    · exact hn _ h
  · exact h
  · rename_i h1 h2
    first
    | exact h
    | (split <;> first | exact h | exact absurd rfl (h1 _ _) | exact absurd rfl (h2 _))

/-- a loop's turns, one by one -/
noncomputable def wTurns (wb : List V → Nat → (Res → Prop) → Prop) (i : Nat) : List PyData → List V → Nat → (Res → Prop) → Prop
  | [], ρ, k, P => P (.next ρ k)
  | x :: xs, ρ, k, P => wb (ρ.set i (.d x)) k fun r => (match r with
    | .next ρ k => wTurns wb i xs ρ k P
    | .ret v k => P (.ret v k)
    | _ => P .bad)
theorem wTurns_of {wb : List V → Nat → (Res → Prop) → Prop} {b : List V → Nat → Res} (hb : ∀ ρ k P, wb ρ k P → P (b ρ k)) (i : Nat) : ∀ (xs : List PyData) (ρ : List V) (k : Nat) (P : Res → Prop), wTurns wb i xs ρ k P → P (turns b i xs ρ k)
  | [], ρ, k, P, h => h
  | x :: xs, ρ, k, P, h => by
    have h1 := hb _ _ _ h
    simp only [turns]
    revert h1
    cases b (ρ.set i (.d x)) k with
    | next ρ k => exact fun h1 => wTurns_of hb i xs ρ k P h1
    | ret v k => exact id
    | exc k => exact id
    | bad => exact id

mutual
noncomputable def wS (call : Nat → List V → Nat → Out) : MS → List V → Nat → (Res → Prop) → Prop
  | .asg i e, ρ, k, P => wE call ρ e k fun r => (match r with
    | .ok v k => P (.next (ρ.set i v) k)
    | .exc k => P (.exc k)
    | .bad => P .bad)
  | .unp is e, ρ, k, P => wE call ρ e k fun r => (match r with
    | .ok (.d (.tuple xs)) k => (match putAll is xs ρ with
      | some ρ => P (.next ρ k)
      | none => P .bad)
    | .exc k => P (.exc k)
    | _ => P .bad)
  | .aug i o e, ρ, k, P => (match ρ[i]? with
    | some (.d x) => wE call ρ e k fun r => (match r with
      | .ok (.d y) k => (match augD o x y with
        | some z => P (.next (ρ.set i (.d z)) k)
        | none => P .bad)
      | .exc k => P (.exc k)
      | _ => P .bad)
    | _ => P .bad)
  | .ite t a b, ρ, k, P => wE call ρ t k fun r => tstRP r P (fun k => wSs call a ρ k P) (fun k => wSs call b ρ k P)
  | .ret e, ρ, k, P => wE call ρ e k fun r => (match r with
    | .ok v k => P (.ret v k)
    | .exc k => P (.exc k)
    | .bad => P .bad)
  | .rse e, ρ, k, P => wE call ρ e k fun r => (match r with
    | .ok (.d _) k => P (.exc k)
    | .exc k => P (.exc k)
    | _ => P .bad)
  | .forR i n b, ρ, k, P => wE call ρ n k fun r => (match r with
    | .ok (.d (.int m)) k => (match decide (0 ≤ m), decide (m ≤ 1000) with
      | true, true => wTurns (wSs call b) i (upto m.toNat 0) ρ k P
      | _, _ => P .bad)
    | .exc k => P (.exc k)
    | _ => P .bad)
  | .forL i l b, ρ, k, P => wE call ρ l k fun r => (match r with
    | .ok (.d (.list xs)) k => wTurns (wSs call b) i xs ρ k P
    | .exc k => P (.exc k)
    | _ => P .bad)
  | .app i e, ρ, k, P => P (exS call (.app i e) ρ k)
noncomputable def wSs (call : Nat → List V → Nat → Out) : MSs → List V → Nat → (Res → Prop) → Prop
  | .nil, ρ, k, P => P (.next ρ k)
  | .cons s r, ρ, k, P => wS call s ρ k fun q => (match q with
    | .next ρ k => wSs call r ρ k P
    | .ret v k => P (.ret v k)
    | .exc k => P (.exc k)
    | .bad => P .bad)
end

mutual
theorem wS_of (call : Nat → List V → Nat → Out) : ∀ (s : MS) (ρ : List V) (k : Nat) (P : Res → Prop), wS call s ρ k P → P (exS call s ρ k)
  | .asg i e, ρ, k, P, h => by
    have h1 := wE_of call ρ e k _ h
    simp only [exS]
    revert h1
    cases evE call ρ e k <;> exact id
  | .unp is e, ρ, k, P, h => by
    have h1 := wE_of call ρ e k _ h
    simp only [exS]
    revert h1
    cases evE call ρ e k with
    | ok v k =>
      cases v with
      | d x =>
        cases x <;> try exact id
        rename_i xs
        dsimp only
        cases putAll is xs ρ <;> exact id
      | un => exact id
      | row => exact id
    | exc k => exact id
    | bad => exact id
  | .aug i o e, ρ, k, P, h => by
    simp only [wS] at h
    simp only [exS]
    revert h
    cases ρ[i]? with
    | none => exact id
    | some v =>
      cases v with
      | d x =>
        intro h
        have h1 := wE_of call ρ e k _ h
        revert h1
        dsimp only
        cases evE call ρ e k with
        | ok v k =>
          cases v with
          | d y =>
            dsimp only
            cases augD o x y <;> exact id
          | un => exact id
          | row => exact id
        | exc k => exact id
        | bad => exact id
      | un => exact id
      | row => exact id
  | .ite t a b, ρ, k, P, h => wE_of call ρ t k _ h |> tstRP_of (fun k h => wSs_of call a ρ k _ h) fun k h => wSs_of call b ρ k _ h
  | .ret e, ρ, k, P, h => by
    have h1 := wE_of call ρ e k _ h
    simp only [exS]
    revert h1
    cases evE call ρ e k <;> exact id
  | .rse e, ρ, k, P, h => by
    have h1 := wE_of call ρ e k _ h
    simp only [exS]
    revert h1
    cases evE call ρ e k with
    | ok v k => cases v <;> exact id
    | exc k => exact id
    | bad => exact id
  | .forR i n b, ρ, k, P, h => by
    have h1 := wE_of call ρ n k _ h
    simp only [exS]
    revert h1
    cases evE call ρ n k with
    | ok v k =>
      cases v with
      | d x =>
        cases x <;> try exact id
        rename_i m
        dsimp only
        cases decide (0 ≤ m) <;> cases decide (m ≤ 1000) <;> try exact id
        exact fun h => wTurns_of (fun ρ k P h => wSs_of call b ρ k P h) i _ ρ k P h
      | un => exact id
      | row => exact id
    | exc k => exact id
    | bad => exact id
  | .forL i l b, ρ, k, P, h => by
    have h1 := wE_of call ρ l k _ h
    simp only [exS]
    revert h1
    cases evE call ρ l k with
    | ok v k =>
      cases v with
      | d x =>
        cases x <;> try exact id
        rename_i xs
        exact fun h => wTurns_of (fun ρ k P h => wSs_of call b ρ k P h) i _ ρ k P h
      | un => exact id
      | row => exact id
    | exc k => exact id
    | bad => exact id
  | .app i e, ρ, k, P, h => h
theorem wSs_of (call : Nat → List V → Nat → Out) : ∀ (s : MSs) (ρ : List V) (k : Nat) (P : Res → Prop), wSs call s ρ k P → P (exSs call s ρ k)
  | .nil, ρ, k, P, h => h
  | .cons s r, ρ, k, P, h => by
    have h1 := wS_of call s ρ k _ h
    simp only [exSs]
    revert h1
    cases exS call s ρ k with
    | next ρ k => exact fun h1 => wSs_of call r ρ k _ h1
    | ret v k => exact id
    | exc k => exact id
    | bad => exact id
end

noncomputable def outOf : Res → Out
  | .ret v k => .ok v k
  | .exc k => .exc k
  | _ => .bad
theorem wF_of {δ : Nat → Int} {tab : Nat → Option Fn} {n f k : Nat} {vs : List V} {fn : Fn} {P : Out → Prop} (hf : Nat.blt 2 f = true) (ht : tab f = some fn) (ha : Nat.beq vs.length fn.arity = true)
    (h : wSs (evF δ tab n) fn.body (pad fn.slots vs) k (fun r => P (outOf r))) : P (evF δ tab (n + 1) f vs k) := by
  have h1 := wSs_of _ _ _ _ _ h
  have e : evF δ tab (n + 1) f vs k = outOf (exSs (evF δ tab n) fn.body (pad fn.slots vs) k) := by
    match f, hf with
    | f + 3, _ =>
      simp only [evF, ht, ha]
      cases exSs (evF δ tab n) fn.body (pad fn.slots vs) k <;> rfl
  rw [e]; exact h1
end Mine

end

-- Snd1
section
open PySem PySem.W PyProof.Rows PySem.Calls
namespace Mine

/-- what stays the same over the law's call -/
structure Cx where
  prog : Program
  w : World
  p : Program
  loose : List Str
  mean : ExcName → Option Value
  mg : Str → Option Value
  mb : Str → Option Value
  g : Heap
  ra : Addr
  R : List Int
  C : Addr

noncomputable def frs (fs : List Env) : List Addr := fs.filterMap (·.frame)

/-- all is kept but what ex names; the frames of F up to their slots -/
noncomputable def Keep (F : List Addr) (ex : Addr → Prop) (h h' : Heap) : Prop :=
  ∀ b o, ¬ ex b → h.get? b = some o → (b ∈ F → ∃ sl, h'.get? b = some { o with slots := sl }) ∧ (b ∉ F → h'.get? b = some o)

theorem Keep.refl {F : List Addr} {ex : Addr → Prop} {h : Heap} : Keep F ex h h := fun _ o _ e => ⟨fun _ => ⟨o.slots, e⟩, fun _ => e⟩
theorem Keep.trans {F : List Addr} {ex : Addr → Prop} {h h1 h2 : Heap} (a : Keep F ex h h1) (b : Keep F ex h1 h2) : Keep F ex h h2 := fun x o n e => by
  by_cases m : x ∈ F
  · obtain ⟨sl, e1⟩ := (a x o n e).1 m
    obtain ⟨sl2, e2⟩ := (b x _ n e1).1 m
    exact ⟨fun _ => ⟨sl2, e2⟩, fun q => absurd m q⟩
  · exact ⟨fun q => absurd q m, fun _ => (b x _ n ((a x o n e).2 m)).2 m⟩
theorem Keep.mono {F : List Addr} {ex ex' : Addr → Prop} {h h' : Heap} (a : Keep F ex h h') (m : ∀ b, ex b → ex' b) : Keep F ex' h h' := fun b o n e => a b o (fun q => n (m b q)) e
theorem Keep.of_keeps {F : List Addr} {ex : Addr → Prop} {h h' : Heap} (k : ∀ b o, ¬ ex b → h.get? b = some o → h'.get? b = some o) : Keep F ex h h' := fun b o n e => ⟨fun _ => ⟨o.slots, k b o n e⟩, fun _ => k b o n e⟩
theorem Keep.push {F : List Addr} {ex : Addr → Prop} {h : Heap} (o : Obj) : Keep F ex h (h.push o) := .of_keeps fun _ _ _ e => Heap.get?_push_of_some _ e
theorem Keep.at {F : List Addr} {ex : Addr → Prop} {h h' : Heap} (k : Keep F ex h h') {b : Addr} {o : Obj} (n : ¬ ex b) (e : h.get? b = some o) : ∃ sl, h'.get? b = some { o with slots := sl } := by
  by_cases m : b ∈ F
  · exact (k b o n e).1 m
  · exact ⟨o.slots, (k b o n e).2 m⟩

/-- the list of draws, k of them drawn -/
noncomputable def RowAt (c : Cx) (h : Heap) (k : Nat) : Prop := ∃ vs o n, h.get? c.ra = some o ∧ o.cls = .type "list" ∧ o.dict = none ∧ o.data = .seq vs.toArray n ∧ o.slots = #[] ∧ IntsAre vs (c.R.take (c.R.length - k))

/-- a list of the call's own that is not the list of draws -/
structure Lk (c : Cx) (h : Heap) (a : Addr) : Prop where
  ne : a ≠ c.ra
  ob : ∃ o xs n, h.get? a = some o ∧ o.data = .seq xs n ∧ o.dict = none

/-- the value stands for it -/
noncomputable def VR (c : Cx) (h : Heap) (v : Value) : V → Prop
  | .un => False
  | .row => v = .ref c.ra
  | .d x => ∃ as, Reads h v x as ∧ x.canLay0 = true ∧ ∀ a ∈ as, Lk c h a

section
variable {h h' : Heap} {ra : Addr}

mutual
theorem reads_up (k : ∀ b o xs n, b ≠ ra → h.get? b = some o → o.data = .seq xs n → ∃ sl, h'.get? b = some { o with slots := sl }) (hr : ∀ o, h.get? ra = some o → o.cls = .type "list") :
    ∀ {v : Value} {d : PyData} {as : List Addr}, Reads h v d as → d.canLay0 = true → (∀ a ∈ as, a ≠ ra) → Reads h' v d as
  | _, _, _, .none, _, _ => .none
  | _, _, _, .bool b, _, _ => .bool b
  | _, _, _, .int i t, _, _ => .int i t
  | _, _, _, .str x t, _, _ => .str x t
  | _, _, _, .list (a := a) e c d r, hl, ha => by
    obtain ⟨sl, e'⟩ := k a _ _ _ (ha a (.head _)) e d
    exact .list e' c d (readsAll_up k hr r (by rw [PyData.canLay0] at hl; exact hl) fun b hb => ha b (.tail _ hb))
  | _, _, _, .tuple (a := a) e c d r, hl, ha => by
    obtain ⟨sl, e'⟩ := k a _ _ _ (fun q => by
      have z := hr _ (q ▸ e)
      rw [c] at z
      exact absurd z (by decide)) e d
    exact .tuple e' c d (readsAll_up k hr r (by rw [PyData.canLay0] at hl; exact hl) ha)
  | _, _, _, .dict _ _ _ _ _, hl, _ => by simp [PyData.canLay0] at hl
theorem readsAll_up (k : ∀ b o xs n, b ≠ ra → h.get? b = some o → o.data = .seq xs n → ∃ sl, h'.get? b = some { o with slots := sl }) (hr : ∀ o, h.get? ra = some o → o.cls = .type "list") :
    ∀ {vs : List Value} {ds : List PyData} {as : List Addr}, ReadsAll h vs ds as → PyData.canLayAll0 ds = true → (∀ a ∈ as, a ≠ ra) → ReadsAll h' vs ds as
  | _, _, _, .nil, _, _ => .nil
  | _, _, _, .cons (as := as) (bs := bs) a r, hl, ha => by
    rw [PyData.canLayAll0, Bool.and_eq_true] at hl
    exact .cons (reads_up k hr a hl.1 fun b hb => ha b (List.mem_append_left _ hb)) (readsAll_up k hr r hl.2 fun b hb => ha b (List.mem_append_right _ hb))
end
end

theorem RowAt.cls {c : Cx} {h : Heap} {k : Nat} (r : RowAt c h k) : ∀ o, h.get? c.ra = some o → o.cls = .type "list" := fun o e => by
  obtain ⟨_, o', _, e', hc, _⟩ := r
  rw [e] at e'
  cases e'
  exact hc

/-- what a store into a frame L and the draws may change -/
theorem VR.up {c : Cx} {F : List Addr} {ex : Addr → Prop} {h h' : Heap} {k : Nat} (K : Keep F ex h h') (r : RowAt c h k) (hex : ∀ b, ex b → b = c.ra ∨ ∃ m, h.Ns b m) {v : Value} {y : V} (x : VR c h v y) : VR c h' v y := by
  cases y with
  | un => exact x
  | row => exact x
  | d y =>
    obtain ⟨as, hr, hl, ha⟩ := x
    have key : ∀ b o xs n, b ≠ c.ra → h.get? b = some o → o.data = .seq xs n → ∃ sl, h'.get? b = some { o with slots := sl } := fun b o xs n nb e d => K.at (fun q => by
      rcases hex b q with z | ⟨m, o', es, ep, e', d', _⟩
      · exact nb z
      · rw [e] at e'
        cases e'
        rw [d] at d'
        cases d') e
    refine ⟨as, reads_up key r.cls hr hl fun a m => (ha a m).ne, hl, fun a m => ⟨(ha a m).ne, ?_⟩⟩
    obtain ⟨o, xs, n, e, d, z⟩ := (ha a m).ob
    obtain ⟨sl, e'⟩ := key a o xs n (ha a m).ne e d
    exact ⟨_, xs, n, e', d, z⟩

theorem RowAt.up {c : Cx} {F : List Addr} {ex : Addr → Prop} {h h' : Heap} {k : Nat} (K : Keep F ex h h') (n : ¬ ex c.ra) (r : RowAt c h k) (nf : c.ra ∉ F := by exact List.not_mem_nil) : RowAt c h' k := by
  obtain ⟨vs, o, m, e, hr⟩ := r
  exact ⟨vs, o, m, (K _ _ n e).2 nf, hr⟩

/-- the frames: depth, C units, the ones below -/
structure Ar (c : Cx) (A : Around) (n : Nat) (fs : List Env) : Prop where
  handled : A.handled = none
  depth : A.depth + n + 10 < recursionLimit
  units : A.units + 3 * n + 200 < cLine
  frames : A.frames = some fs
  nra : c.ra ∉ frs fs
  top : ∃ b, b ∈ frs fs ∧ c.g.objs.size ≤ b

/-- an exception in flight below the frames fs; G is the heap at the start -/
noncomputable def ExcX (c : Cx) (fs : List Env) (ex : Addr → Prop) (G : Heap) (k : Nat) (e : Addr) (h' : Heap) : Prop :=
  ∃ B a0, c.g.StaysIn B ∧ (∀ b o, ¬ ex b → G.get? b = some o → b ∉ frs fs → B.get? b = some o) ∧ RowAt c B k ∧
    Heap.FlyingW B fs e (.ref c.C) a0 h' ∧ Keep (frs fs) ex G h'
noncomputable abbrev Exc (c : Cx) (fs : List Env) (G : Heap) (k : Nat) (e : Addr) (h' : Heap) : Prop := ExcX c fs (· = c.ra) G k e h'

noncomputable def PostE (c : Cx) (fs : List Env) (s : Shared) (r : Out) (Q E : Value → Shared → Prop) : Prop := match r with
  | .ok y k => ∀ v h' tk', c.g.StaysIn h' → RowAt c h' k → Keep (frs fs) (· = c.ra) s.heap h' → VR c h' v y → Q v { s with heap := h', toks := tk' }
  | .exc k => ∀ e h' tk', Exc c fs s.heap k e h' → E (.ref e) { s with heap := h', toks := tk' }
  | .bad => False

noncomputable def PostB (c : Cx) (fs : List Env) (s : Shared) (r : Out) (Q : Bool → Shared → Prop) (E : Value → Shared → Prop) : Prop := match r with
  | .ok (.d (.bool b)) k => ∀ h' tk', c.g.StaysIn h' → RowAt c h' k → Keep (frs fs) (· = c.ra) s.heap h' → Q b { s with heap := h', toks := tk' }
  | .exc k => ∀ e h' tk', Exc c fs s.heap k e h' → E (.ref e) { s with heap := h', toks := tk' }
  | _ => False

theorem ExcX.shift {c : Cx} {fs : List Env} {ex : Addr → Prop} {G G1 : Heap} {k : Nat} {e : Addr} {h' : Heap} (K : Keep (frs fs) ex G G1) (x : ExcX c fs ex G1 k e h') : ExcX c fs ex G k e h' := by
  obtain ⟨B, t, h1, h2, h3, h5, h6⟩ := x
  exact ⟨B, t, h1, fun b o n e nf => h2 b o n ((K b o n e).2 nf) nf, h3, h5, K.trans h6⟩
theorem ExcX.mono {c : Cx} {fs : List Env} {ex ex' : Addr → Prop} {G : Heap} {k : Nat} {e : Addr} {h' : Heap} (x : ExcX c fs ex G k e h') (m : ∀ b, ex b → ex' b) : ExcX c fs ex' G k e h' := by
  obtain ⟨B, t, h1, h2, h3, h5, h6⟩ := x
  exact ⟨B, t, h1, fun b o n e nf => h2 b o (fun q => n (m b q)) e nf, h3, h5, h6.mono m⟩

theorem PostE.shift {c : Cx} {fs : List Env} {s : Shared} {h1 : Heap} {tk : Nat} {r : Out} {Q E : Value → Shared → Prop} (K : Keep (frs fs) (· = c.ra) s.heap h1) (p : PostE c fs s r Q E) : PostE c fs { s with heap := h1, toks := tk } r Q E := by
  cases r with
  | ok y k => exact fun v h' tk' a b d e => p v h' tk' a b (K.trans d) e
  | exc k => exact fun e h' tk' x => p e h' tk' (ExcX.shift K x)
  | bad => exact p
theorem PostB.shift {c : Cx} {fs : List Env} {s : Shared} {h1 : Heap} {tk : Nat} {r : Out} {Q : Bool → Shared → Prop} {E : Value → Shared → Prop} (K : Keep (frs fs) (· = c.ra) s.heap h1) (p : PostB c fs s r Q E) : PostB c fs { s with heap := h1, toks := tk } r Q E := by
  unfold PostB at p ⊢
  split
  · exact fun h' tk' a b d => p h' tk' a b (K.trans d)
  · exact fun e h' tk' x => p e h' tk' (ExcX.shift K x)
  · rename_i h1 h2
    split at p
    · exact absurd rfl (h1 _ _)
    · exact absurd rfl (h2 _)
    · exact p

/-- the state behind an expression -/
structure Bh (c : Cx) (fs : List Env) (s : Shared) (h1 : Heap) (k1 : Nat) : Prop where
  base : c.g.StaysIn h1
  row : RowAt c h1 k1
  keep : Keep (frs fs) (· = c.ra) s.heap h1

theorem PostE.one {c : Cx} {fs : List Env} {s : Shared} {r : Out} {g : PyData → Nat → Out} {Q Q' E : Value → Shared → Prop} (p : PostE c fs s (one r g) Q E)
    (k : ∀ x k1 v h1 tk1, r = .ok (.d x) k1 → Bh c fs s h1 k1 → VR c h1 v (.d x) → PostE c fs { s with heap := h1, toks := tk1 } (g x k1) Q E → Q' v { s with heap := h1, toks := tk1 }) : PostE c fs s r Q' E := by
  cases r with
  | ok y k1 =>
    cases y with
    | d x => exact fun v h1 tk1 a b d e => k x k1 v h1 tk1 rfl ⟨a, b, d⟩ e (PostE.shift d p)
    | un => exact p.elim
    | row => exact p.elim
  | exc k1 => exact p
  | bad => exact p.elim
theorem PostE.tst {c : Cx} {fs : List Env} {s : Shared} {r : Out} {y n : Nat → Out} {Q E : Value → Shared → Prop} {Q' : Bool → Shared → Prop} (p : PostE c fs s (tst r y n) Q E)
    (k : ∀ b k1 h1 tk1, Bh c fs s h1 k1 → PostE c fs { s with heap := h1, toks := tk1 } (if b then y k1 else n k1) Q E → Q' b { s with heap := h1, toks := tk1 }) : PostB c fs s r Q' E := by
  unfold Mine.tst at p
  unfold PostB
  split at p
  · exact fun h1 tk1 a b d => k _ _ h1 tk1 ⟨a, b, d⟩ (PostE.shift d (by split at p <;> exact p))
  · exact p
  · rename_i h1 h2
    first
    | exact p.elim
    | (split <;> first | exact p.elim | exact absurd rfl (h1 _ _) | exact absurd rfl (h2 _))
theorem PostB.tst {c : Cx} {fs : List Env} {s : Shared} {r : Out} {y n : Nat → Out} {Q : Bool → Shared → Prop} {E : Value → Shared → Prop} {Q' : Bool → Shared → Prop} (p : PostB c fs s (tst r y n) Q E)
    (k : ∀ b k1 h1 tk1, Bh c fs s h1 k1 → PostB c fs { s with heap := h1, toks := tk1 } (if b then y k1 else n k1) Q E → Q' b { s with heap := h1, toks := tk1 }) : PostB c fs s r Q' E := by
  unfold Mine.tst at p
  unfold PostB
  split at p
  · exact fun h1 tk1 a b d => k _ _ h1 tk1 ⟨a, b, d⟩ (PostB.shift d (by split at p <;> exact p))
  · exact p
  · rename_i h1 h2
    first
    | exact p.elim
    | (split <;> first | exact p.elim | exact absurd rfl (h1 _ _) | exact absurd rfl (h2 _))
/-- a truth out of a value -/
theorem PostB.value {c : Cx} {fs : List Env} {s : Shared} {r : Out} {Q : Bool → Shared → Prop} {E : Value → Shared → Prop} {Q' : Value → Shared → Prop} (p : PostB c fs s r Q E)
    (k : ∀ b s1, Q b s1 → Q' (.bool b) s1) : PostE c fs s r Q' E := by
  unfold PostB at p
  split at p
  · rename_i b k1
    intro v h' tk' a b d e
    obtain ⟨as, hr, _, _⟩ := e
    cases hr
    exact k _ _ (p h' tk' a b d)
  · exact p
  · exact p.elim
end Mine

end

-- Snd2
section
open PySem PySem.W PyProof.Rows PySem.Calls
namespace Mine
set_option maxRecDepth 100000

theorem leq_eq : ∀ (x y : List Nat), leq x y = (x == y)
  | [], [] => rfl
  | a :: r, b :: q => by
    rw [leq, List.cons_beq_cons, leq_eq r q]
    cases h : Nat.beq a b with
    | true => rw [Nat.eq_of_beq_eq_true h]; simp
    | false =>
      have : a ≠ b := Nat.ne_of_beq_eq_false h
      simp [this]
  | [], _ :: _ => rfl
  | _ :: _, [] => rfl
theorem leq_str (x y : Str) : leq x.cps.toList y.cps.toList = (x == y) := by
  rw [leq_eq, Bool.eq_iff_iff, beq_iff_eq, beq_iff_eq]
  constructor
  · intro e
    obtain ⟨x⟩ := x
    obtain ⟨y⟩ := y
    exact congrArg Str.mk (Array.ext' e)
  · intro e
    rw [e]

theorem eqS_eqv : ∀ {x y : PyData} {b : Bool}, eqS x y = some b → PyData.eqv x y = b ∧ x.depth = 0 ∧ y.depth = 0
  | .int a, .int c, b, h => by
    injection h with h
    subst h
    refine ⟨?_, by simp [PyData.depth], by simp [PyData.depth]⟩
    rw [PyData.eqv]
    by_cases e : a = c <;> simp [e]
  | .str x, .str y, b, h => by
    injection h with h
    subst h
    refine ⟨?_, by simp [PyData.depth], by simp [PyData.depth]⟩
    rw [PyData.eqv, leq_str]
  | .int _, .str _, b, h => by
    injection h with h
    subst h
    exact ⟨by simp [PyData.eqv], by simp [PyData.depth], by simp [PyData.depth]⟩
  | .str _, .int _, b, h => by
    injection h with h
    subst h
    exact ⟨by simp [PyData.eqv], by simp [PyData.depth], by simp [PyData.depth]⟩
  | .bool _, .bool _, b, h => by
    injection h with h
    subst h
    exact ⟨by simp [PyData.eqv], by simp [PyData.depth], by simp [PyData.depth]⟩
  | .none, _, _, h => by simp [eqS] at h
  | .bool _, .none, _, h | .bool _, .int _, _, h | .bool _, .str _, _, h | .bool _, .list _, _, h | .bool _, .tuple _, _, h | .bool _, .dict _, _, h => by simp [eqS] at h
  | .int _, .none, _, h | .int _, .bool _, _, h | .int _, .list _, _, h | .int _, .tuple _, _, h | .int _, .dict _, _, h => by simp [eqS] at h
  | .str _, .none, _, h | .str _, .bool _, _, h | .str _, .list _, _, h | .str _, .tuple _, _, h | .str _, .dict _, _, h => by simp [eqS] at h
  | .list _, _, _, h => by simp [eqS] at h
  | .tuple _, _, _, h => by simp [eqS] at h
  | .dict _, _, _, h => by simp [eqS] at h
theorem eqL_eqv : ∀ {xs ys : List PyData} {b : Bool}, eqL xs ys = some b → PyData.eqvAll xs ys = b ∧ min (PyData.depthAll xs) (PyData.depthAll ys) = 0
  | [], [], b, h => by
    injection h with h
    subst h
    exact ⟨by simp [PyData.eqvAll], by simp [PyData.depthAll]⟩
  | x :: xs, y :: ys, b, h => by
    rw [eqL] at h
    split at h
    · rename_i b1 b2 h1 h2
      injection h with h
      subst h
      obtain ⟨e1, d1, d2⟩ := eqS_eqv h1
      obtain ⟨e2, d3⟩ := eqL_eqv h2
      refine ⟨by rw [PyData.eqvAll, e1, e2], ?_⟩
      rw [PyData.depthAll, PyData.depthAll, d1, d2]
      omega
    · cases h
  | [], _ :: _, b, h => by
    injection h with h
    subst h
    exact ⟨by simp [PyData.eqvAll], by simp [PyData.depthAll]⟩
  | _ :: _, [], b, h => by
    injection h with h
    subst h
    exact ⟨by simp [PyData.eqvAll], by simp [PyData.depthAll]⟩
theorem eqD_eqv {x y : PyData} {b : Bool} (h : eqD x y = some b) : PyData.eqv x y = b ∧ min x.depth y.depth ≤ 1 := by
  unfold eqD at h
  split at h
  · obtain ⟨e, d⟩ := eqL_eqv h
    exact ⟨by rw [PyData.eqv]; exact e, by rw [PyData.depth, PyData.depth]; omega⟩
  · obtain ⟨e, d⟩ := eqL_eqv h
    exact ⟨by rw [PyData.eqv]; exact e, by rw [PyData.depth, PyData.depth]; omega⟩
  · injection h with h
    subst h
    exact ⟨by simp [PyData.eqv], by simp [PyData.depth]⟩
  · injection h with h
    subst h
    exact ⟨by simp [PyData.eqv], by simp [PyData.depth]⟩
  · obtain ⟨e, d, _⟩ := eqS_eqv h
    exact ⟨e, by omega⟩

theorem inL_any (x : List Nat) : ∀ {ys : List PyData} {b : Bool}, inL x ys = some b → ∃ ss : List Str, ys = ss.map PyData.str ∧ b = ss.any (fun y => leq y.cps.toList x)
  | [], b, h => by
    injection h with h
    subst h
    exact ⟨[], rfl, rfl⟩
  | .str y :: r, b, h => by
    rw [inL] at h
    split at h
    · rename_i b1 h1
      injection h with h
      subst h
      obtain ⟨ss, e, hb⟩ := inL_any x h1
      exact ⟨y :: ss, by rw [e]; rfl, by rw [List.any_cons, ← hb]⟩
    · cases h
  | .none :: _, _, h | .bool _ :: _, _, h | .int _ :: _, _, h | .list _ :: _, _, h | .tuple _ :: _, _, h | .dict _ :: _, _, h => by simp [inL] at h

theorem strsAre_of {h : Heap} : ∀ {ss : List Str} {vs : List Value} {as : List Addr}, ReadsAll h vs (ss.map PyData.str) as → StrsAre vs ss
  | [], _, _, r => by cases r; exact .nil
  | s :: ss, _, _, r => by
    cases r with
    | cons a b =>
      cases a
      exact .cons _ _ (strsAre_of b)

section
variable {c : Cx} {fs : List Env} {A : Around} {s : Shared} {k : Nat} {E : Value → Shared → Prop} {Q : Value → Shared → Prop}

theorem ret0 {y : V} {v : Value} {tk : Nat} (p : PostE c fs s (.ok y k) Q E) (hb : c.g.StaysIn s.heap) (hr : RowAt c s.heap k) (hv : VR c s.heap v y) : Q v { s with toks := tk } :=
  p v s.heap tk hb hr Keep.refl hv
theorem vr_int {h : Heap} (i : Int) (t : Tok) : VR c h (.int i t) (.d (.int i)) := ⟨[], .int i t, by simp [PyData.canLay0], fun _ m => nomatch m⟩
theorem vr_bool {h : Heap} (b : Bool) : VR c h (.bool b) (.d (.bool b)) := ⟨[], .bool b, by simp [PyData.canLay0], fun _ m => nomatch m⟩
theorem vr_none {h : Heap} : VR c h .none (.d .none) := ⟨[], .none, by simp [PyData.canLay0], fun _ m => nomatch m⟩
theorem vr_str {h : Heap} (x : Str) (t : Tok) (hx : PyData.strOk x = true) : VR c h (.str x t) (.d (.str x)) := ⟨[], .str x t, by simpa [PyData.canLay0] using hx, fun _ m => nomatch m⟩
theorem vr_int_inv {h : Heap} {v : Value} {i : Int} (x : VR c h v (.d (.int i))) : ∃ t, v = .int i t := by
  obtain ⟨_, r, _, _⟩ := x
  cases r
  exact ⟨_, rfl⟩
theorem vr_bool_inv {h : Heap} {v : Value} {i : Bool} (x : VR c h v (.d (.bool i))) : v = .bool i := by
  obtain ⟨_, r, _, _⟩ := x
  cases r
  rfl
theorem vr_none_inv {h : Heap} {v : Value} (x : VR c h v (.d .none)) : v = .none := by
  obtain ⟨_, r, _, _⟩ := x
  cases r
  rfl
theorem vr_str_inv {h : Heap} {v : Value} {y : Str} (x : VR c h v (.d (.str y))) : (∃ t, v = .str y t) ∧ PyData.strOk y = true := by
  obtain ⟨_, r, hl, _⟩ := x
  cases r
  exact ⟨⟨_, rfl⟩, by simpa [PyData.canLay0] using hl⟩
theorem vr_tup_inv {h : Heap} {v : Value} {xs : List PyData} (x : VR c h v (.d (.tuple xs))) : ∃ a vs as, v = .ref a ∧ IsTup h a vs.toArray ∧ ReadsAll h vs xs as ∧ PyData.canLayAll0 xs = true ∧ ∀ b ∈ as, Lk c h b := by
  obtain ⟨as, r, hl, ha⟩ := x
  cases r with
  | tuple e cc d r =>
    rename_i o vs n
    exact ⟨_, vs.toList, as, rfl, ⟨_, e, cc, n, by rw [d]⟩, r, by simpa [PyData.canLay0] using hl, ha⟩
theorem vr_lst_inv {h : Heap} {v : Value} {xs : List PyData} (x : VR c h v (.d (.list xs))) : ∃ a vs as, v = .ref a ∧ Lk c h a ∧ h.IsList a vs.toArray ∧ ReadsAll h vs xs as ∧ PyData.canLayAll0 xs = true ∧ ∀ b ∈ as, Lk c h b := by
  obtain ⟨as, r, hl, ha⟩ := x
  cases r with
  | list e cc d r =>
    rename_i o vs n as
    exact ⟨_, vs.toList, as, rfl, ha _ (.head _), ⟨_, e, cc, n, by rw [d]⟩, r, by simpa [PyData.canLay0] using hl, fun b m => ha b (.tail _ m)⟩

theorem strOk_append {x y : Str} (hx : PyData.strOk x = true) (hy : PyData.strOk y = true) : PyData.strOk ⟨(x.cps.toList ++ y.cps.toList).toArray⟩ = true := by
  unfold PyData.strOk at *
  rw [← Array.all_toList] at *
  show (x.cps.toList ++ y.cps.toList).all _ = true
  rw [List.all_append, hx, hy]
  rfl
theorem str_append_eq (x y : Str) : x ++ y = ⟨(x.cps.toList ++ y.cps.toList).toArray⟩ := by
  show Str.mk (x.cps ++ y.cps) = _
  congr 1
  simp

theorem small_bits {a : Int} (h : small a = true) : Builtin.Int.intBits a ≤ 64 := by
  have h1 := of_decide_eq_true h
  exact intBits_le_64 (by omega) (by omega)
theorem small_64 {a : Int} (h : small a = true) : a.natAbs < 2 ^ 64 := by
  have h1 := of_decide_eq_true h
  omega
theorem small_div {a b : Int} (h : small b = true) : Builtin.divisionGoesByPylong a b = false := by
  refine PyProof.noPylong_of_log2 ?_
  have h1 := of_decide_eq_true h
  by_cases h0 : b.natAbs = 0
  · rw [h0]; decide +kernel
  · have : b.natAbs.log2 < 32 := (Nat.log2_lt h0).mpr h1
    omega

theorem readsAll_len {h : Heap} : ∀ {vs : List Value} {ds : List PyData} {as : List Addr}, ReadsAll h vs ds as → vs.length = ds.length
  | _, _, _, .nil => rfl
  | _, _, _, .cons _ r => by rw [List.length_cons, List.length_cons, readsAll_len r]
theorem readsAll_append {h : Heap} : ∀ {vs : List Value} {ds : List PyData} {as : List Addr}, ReadsAll h vs ds as → ∀ {vs' : List Value} {ds' : List PyData} {as' : List Addr}, ReadsAll h vs' ds' as' → ReadsAll h (vs ++ vs') (ds ++ ds') (as ++ as')
  | _, _, _, .nil, _, _, _, r => r
  | _, _, _, .cons a r, _, _, _, r' => by
    rw [List.cons_append, List.cons_append, List.append_assoc]
    exact .cons a (readsAll_append r r')
theorem canLayAll_append : ∀ (xs ys : List PyData), PyData.canLayAll0 (xs ++ ys) = (PyData.canLayAll0 xs && PyData.canLayAll0 ys)
  | [], ys => by simp [PyData.canLayAll0]
  | x :: xs, ys => by rw [List.cons_append, PyData.canLayAll0, PyData.canLayAll0, canLayAll_append xs ys, Bool.and_assoc]
theorem readsAll_keeps {h h' : Heap} (k : ∀ b o, h.get? b = some o → h'.get? b = some o) {vs : List Value} {ds : List PyData} {as : List Addr} (r : ReadsAll h vs ds as) : ReadsAll h' vs ds as := ReadsAll.keeps k r
theorem readsAll_push {h : Heap} {vs : List Value} {ds : List PyData} {as : List Addr} (r : ReadsAll h vs ds as) (o : Obj) : ReadsAll (h.push o) vs ds as := readsAll_keeps (fun _ _ e => Heap.get?_push_of_some _ e) r
theorem Lk.push {h : Heap} {a : Addr} (x : Lk c h a) (o : Obj) : Lk c (h.push o) a :=
  let ⟨n, o', xs, m, e, d, z⟩ := x
  ⟨n, o', xs, m, Heap.get?_push_of_some _ e, d, z⟩
theorem VR.newList {h : Heap} {vs : List Value} {xs : List PyData} {as : List Addr} (hr : RowAt c h k) (r : ReadsAll (h.push { cls := .type "list", data := .seq vs.toArray }) vs xs as) (hc : PyData.canLayAll0 xs = true) (ha : ∀ b ∈ as, Lk c h b) :
    VR c (h.push { cls := .type "list", data := .seq vs.toArray }) (.ref h.objs.size) (.d (.list xs)) := by
  refine ⟨h.objs.size :: as, .list (Heap.get?_push_size _ rfl) rfl rfl r, by simpa [PyData.canLay0] using hc, fun b m => ?_⟩
  rcases List.mem_cons.mp m with rfl | m
  · obtain ⟨_, o, _, e, _⟩ := hr
    exact ⟨Nat.ne_of_gt (Heap.lt_size e), _, _, _, Heap.get?_push_size _ rfl, rfl, rfl⟩
  · exact (ha b m).push _
theorem VR.newTuple {h : Heap} {vs : List Value} {xs : List PyData} {as : List Addr} (r : ReadsAll (h.push { cls := .type "tuple", data := .seq vs.toArray }) vs xs as) (hc : PyData.canLayAll0 xs = true) (ha : ∀ b ∈ as, Lk c h b) :
    VR c (h.push { cls := .type "tuple", data := .seq vs.toArray }) (.ref h.objs.size) (.d (.tuple xs)) :=
  ⟨as, .tuple (Heap.get?_push_size _ rfl) rfl rfl r, by simpa [PyData.canLay0] using hc, fun b m => (ha b m).push _⟩

/-- the operators -/
theorem binD_ok {o : Operator} {x y : PyData} {v u : Value} (hu : A.units + 100 < cLine) (hb : c.g.StaysIn s.heap) (hr : RowAt c s.heap k) (hv : VR c s.heap v (.d x)) (hw : VR c s.heap u (.d y))
    (p : PostE c fs s (ofO k (binD o x y)) Q E) : wpAny (model c.prog c.w) A (binaryOp o v u) Q E s := by
  unfold binD at p
  split at p
  · obtain ⟨t, rfl⟩ := vr_int_inv hv
    obtain ⟨t', rfl⟩ := vr_int_inv hw
    exact P.add_int (ret0 p hb hr (vr_int _ _))
  · obtain ⟨⟨t, rfl⟩, hx⟩ := vr_str_inv hv
    obtain ⟨⟨t', rfl⟩, hy⟩ := vr_str_inv hw
    rename_i x y
    split at p
    · rename_i hf
      have hf' : x.cps.toList.length + y.cps.toList.length ≤ 1000 := Nat.le_of_ble_eq_true hf
      refine P.add_str ?_
      split
      · rename_i h0
        have h0' : x.cps = #[] := Array.eq_empty_of_size_eq_zero (by simpa [Str.length] using h0)
        refine ret0 p hb hr ?_
        have : (⟨(x.cps.toList ++ y.cps.toList).toArray⟩ : Str) = y := by rw [h0']; simp
        rw [this]
        exact vr_str _ _ hy
      · split
        · rename_i h0
          have h0' : y.cps = #[] := Array.eq_empty_of_size_eq_zero (by simpa [Str.length] using h0)
          refine ret0 p hb hr ?_
          have : (⟨(x.cps.toList ++ y.cps.toList).toArray⟩ : Str) = x := by rw [h0']; simp
          rw [this]
          exact vr_str _ _ hx
        · refine ⟨?_, ?_⟩
          · rw [strLen_append]
            simp only [Str.length, Array.length_toList] at hf' ⊢
            rw [sizeLine_eq]; omega
          · refine ret0 p hb hr ?_
            rw [str_append_eq]
            exact vr_str _ _ (strOk_append hx hy)
    · exact p.elim
  · obtain ⟨a, vs, as, rfl, na, hl, r, hc, ha⟩ := vr_lst_inv hv
    obtain ⟨a', vs', as', rfl, na', hl', r', hc', ha'⟩ := vr_lst_inv hw
    rename_i x y
    split at p
    · rename_i hf
      have hf' : x.length + y.length ≤ 1000 := Nat.le_of_ble_eq_true hf
      have lv := readsAll_len r
      have lw := readsAll_len r'
      obtain ⟨⟨cls, dd, dat, sl⟩, ho, hcl, n, hd⟩ := id hl
      obtain ⟨⟨cls2, dd2, dat2, sl2⟩, ho2, hcl2, n2, hd2⟩ := id hl'
      simp only at hcl hd hcl2 hd2
      subst hcl hd hcl2 hd2
      have e : vs.toArray ++ vs'.toArray = (vs ++ vs').toArray := by simp
      refine concat_meets ⟨_, ho, rfl⟩ ⟨_, ho2, rfl⟩ noFill_list_add seq_list_add PySem.F.slot_list_add PySem.F.entry_list_add (PySem.F.args_list_add_2 _ _) (list_addW a a' vs.toArray vs'.toArray n n2 dd dd2 sl sl2 (by
        simp only [List.size_toArray]
        rw [sizeLine_eq]; omega)) ⟨ho, ho2, ?_⟩
      rw [e]
      refine p _ _ _ (fun b o e => Heap.get?_push_of_some _ (hb b o e)) (RowAt.up (F := []) (ex := fun _ => False) (Keep.push _) id hr) (Keep.push _) ?_
      exact VR.newList hr (readsAll_append (readsAll_push r _) (readsAll_push r' _)) (by rw [canLayAll_append, hc, hc']; rfl) fun b m => (List.mem_append.mp m).elim (ha b) (ha' b)
    · exact p.elim
  · obtain ⟨t, rfl⟩ := vr_int_inv hv
    obtain ⟨t', rfl⟩ := vr_int_inv hw
    exact P.sub_int (ret0 p hb hr (vr_int _ _))
  · obtain ⟨t, rfl⟩ := vr_int_inv hv
    obtain ⟨t', rfl⟩ := vr_int_inv hw
    split at p
    · rename_i hs
      exact P.mul_int (ret0 p hb hr (vr_int _ _)) (IntMulOk.of_right (small_bits hs))
    · exact p.elim
  · obtain ⟨t, rfl⟩ := vr_int_inv hv
    obtain ⟨t', rfl⟩ := vr_int_inv hw
    split at p
    · rename_i hs h0
      exact floordiv_int (of_decide_eq_false h0) (ret0 p hb hr (vr_int _ _)) (.inl (small_div hs))
    · exact p.elim
  · obtain ⟨t, rfl⟩ := vr_int_inv hv
    obtain ⟨t', rfl⟩ := vr_int_inv hw
    split at p
    · rename_i h0
      exact mod_int' (of_decide_eq_false h0) (ret0 p hb hr (vr_int _ _))
    · exact p.elim
  · obtain ⟨t, rfl⟩ := vr_int_inv hv
    obtain ⟨t', rfl⟩ := vr_int_inv hw
    split at p
    · rename_i hs h0 h1
      have := of_decide_eq_true h1
      exact pow_int_small (of_decide_eq_true h0) (by omega) (small_64 hs) (ret0 p hb hr (vr_int _ _))
    · exact p.elim
  · obtain ⟨t, rfl⟩ := vr_int_inv hv
    obtain ⟨t', rfl⟩ := vr_int_inv hw
    split at p
    · rename_i hs h0 h1
      have := of_decide_eq_true h1
      exact lshift_int_small (of_decide_eq_true h0) (by omega) (small_64 hs) (ret0 p hb hr (vr_int _ _))
    · exact p.elim
  · obtain ⟨t, rfl⟩ := vr_int_inv hv
    obtain ⟨t', rfl⟩ := vr_int_inv hw
    exact xor_int (ret0 p hb hr (vr_int _ _))
  · exact p.elim
end
end Mine

end

-- Snd3
section
open PySem PySem.W PyProof.Rows PySem.Calls
namespace Mine
set_option maxRecDepth 100000

theorem leq_str' (x y : Str) : leq x.cps.toList y.cps.toList = (x == y) := leq_str x y

section
variable {c : Cx} {fs : List Env} {A : Around} {s : Shared} {k : Nat} {E : Value → Shared → Prop} {Q : Value → Shared → Prop}

theorem augD_ok {o : Operator} {x y : PyData} {v u : Value} (hb : c.g.StaysIn s.heap) (hr : RowAt c s.heap k) (hv : VR c s.heap v (.d x)) (hw : VR c s.heap u (.d y))
    (p : PostE c fs s (ofO k (augD o x y)) Q E) : wpAny (model c.prog c.w) A (inplaceOp o v u) Q E s := by
  unfold augD at p
  split at p
  · obtain ⟨t, rfl⟩ := vr_int_inv hv
    obtain ⟨t', rfl⟩ := vr_int_inv hw
    exact P.iadd_int (ret0 p hb hr (vr_int _ _))
  · obtain ⟨t, rfl⟩ := vr_int_inv hv
    obtain ⟨t', rfl⟩ := vr_int_inv hw
    exact P.isub_int (ret0 p hb hr (vr_int _ _))
  · exact p.elim

theorem eq_ok {x y : PyData} {v u : Value} {b : Bool} (hu : A.units + 100 < cLine) (hv : VR c s.heap v (.d x)) (hw : VR c s.heap u (.d y)) (e : eqD x y = some b) (h : Q (.bool b) s) :
    wpAny (model c.prog c.w) A (compareOp .Eq v u) Q E s := by
  obtain ⟨as, r, hl, _⟩ := hv
  obtain ⟨bs, r', hl', _⟩ := hw
  obtain ⟨e1, e2⟩ := eqD_eqv e
  exact PySem.SeqAt.compareEq_reads r r' hl hl' (by omega) (by rw [e1]; exact h)
theorem ne_ok {x y : PyData} {v u : Value} {b : Bool} (hu : A.units + 100 < cLine) (hv : VR c s.heap v (.d x)) (hw : VR c s.heap u (.d y)) (e : eqD x y = some b) (h : Q (.bool (!b)) s) :
    wpAny (model c.prog c.w) A (compareOp .NotEq v u) Q E s := by
  obtain ⟨as, r, hl, _⟩ := hv
  obtain ⟨bs, r', hl', _⟩ := hw
  obtain ⟨e1, e2⟩ := eqD_eqv e
  exact PySem.SeqAt.compareNe_reads r r' hl hl' (by omega) (by rw [e1]; exact h)

theorem any_leq (x : Str) (ss : List Str) : ss.any (fun y => leq y.cps.toList x.cps.toList) = ss.any (· == x) := by
  congr 1
  funext y
  exact leq_str y x

theorem in_ok {x y : PyData} {v u : Value} {b : Bool} (hv : VR c s.heap v (.d x)) (hw : VR c s.heap u (.d y)) (e : inD x y = some b) (h : Q (.bool b) s) :
    wpAny (model c.prog c.w) A (compareOp .In v u) Q E s := by
  unfold inD at e
  split at e
  · obtain ⟨⟨t, rfl⟩, _⟩ := vr_str_inv hv
    obtain ⟨a, vs, as, rfl, _, hl, r, _, _⟩ := vr_lst_inv hw
    obtain ⟨ss, rfl, rfl⟩ := inL_any _ e
    rw [any_leq] at h
    exact in_list_strs hl (strsAre_of r) h
  · obtain ⟨⟨t, rfl⟩, _⟩ := vr_str_inv hv
    obtain ⟨a, vs, as, rfl, hl, r, _, _⟩ := vr_tup_inv hw
    obtain ⟨ss, rfl, rfl⟩ := inL_any _ e
    rw [any_leq] at h
    exact in_tuple_strs hl (strsAre_of r) h
  · cases e
theorem notin_ok {x y : PyData} {v u : Value} {b : Bool} (hv : VR c s.heap v (.d x)) (hw : VR c s.heap u (.d y)) (e : inD x y = some b) (h : Q (.bool (!b)) s) :
    wpAny (model c.prog c.w) A (compareOp .NotIn v u) Q E s := by
  unfold inD at e
  split at e
  · obtain ⟨⟨t, rfl⟩, _⟩ := vr_str_inv hv
    obtain ⟨a, vs, as, rfl, _, hl, r, _, _⟩ := vr_lst_inv hw
    obtain ⟨ss, rfl, rfl⟩ := inL_any _ e
    rw [any_leq] at h
    exact notin_list_strs hl (strsAre_of r) h
  · obtain ⟨⟨t, rfl⟩, _⟩ := vr_str_inv hv
    obtain ⟨a, vs, as, rfl, hl, r, _, _⟩ := vr_tup_inv hw
    obtain ⟨ss, rfl, rfl⟩ := inL_any _ e
    rw [any_leq] at h
    exact notin_tuple_strs hl (strsAre_of r) h
  · cases e

/-- the comparisons -/
theorem cmpD_ok {o : CmpOp} {x y : PyData} {v u : Value} (hu : A.units + 100 < cLine) (hb : c.g.StaysIn s.heap) (hr : RowAt c s.heap k) (hv : VR c s.heap v (.d x)) (hw : VR c s.heap u (.d y))
    (p : PostE c fs s (ofB k (cmpD o x y)) Q E) : wpAny (model c.prog c.w) A (compareOp o v u) Q E s := by
  have fin : ∀ b, PostE c fs s (ofB k (some b)) Q E → Q (.bool b) s := fun b p => ret0 (tk := s.toks) p hb hr (vr_bool b)
  unfold cmpD at p
  split at p
  · obtain ⟨t, rfl⟩ := vr_int_inv hv
    obtain ⟨t', rfl⟩ := vr_int_inv hw
    exact P.lt_int (fin _ p)
  · obtain ⟨t, rfl⟩ := vr_int_inv hv
    obtain ⟨t', rfl⟩ := vr_int_inv hw
    exact P.le_int (fin _ p)
  · obtain ⟨t, rfl⟩ := vr_int_inv hv
    obtain ⟨t', rfl⟩ := vr_int_inv hw
    exact P.gt_int (fin _ p)
  · obtain ⟨t, rfl⟩ := vr_int_inv hv
    obtain ⟨t', rfl⟩ := vr_int_inv hw
    exact P.ge_int (fin _ p)
  · cases e : eqD x y with
    | none => rw [e] at p; exact p.elim
    | some b => rw [e] at p; exact eq_ok hu hv hw e (fin _ p)
  · cases e : eqD x y with
    | none => rw [e] at p; exact p.elim
    | some b => rw [e] at p; exact ne_ok hu hv hw e (fin _ p)
  · cases e : inD x y with
    | none => rw [e] at p; exact p.elim
    | some b => rw [e] at p; exact in_ok hv hw e (fin _ p)
  · cases e : inD x y with
    | none => rw [e] at p; exact p.elim
    | some b => rw [e] at p; exact notin_ok hv hw e (fin _ p)
  · rw [vr_none_inv hv, vr_none_inv hw]
    exact wpAny_is_self rfl (fin _ p)
  · obtain ⟨a, vs, as, rfl, _⟩ := vr_tup_inv hv
    rw [vr_none_inv hw]
    exact wpAny_is_other rfl (by intro q; cases q) (fin _ p)
  · exact p.elim

theorem readsAll_at {h : Heap} : ∀ {vs : List Value} {ds : List PyData} {as : List Addr}, ReadsAll h vs ds as → ∀ (i : Nat) (d : PyData), ds[i]? = some d → ∃ v bs, vs[i]? = some v ∧ Reads h v d bs ∧ ∀ b ∈ bs, b ∈ as
  | _, _, _, .nil, i, d, e => by simp at e
  | _, _, _, .cons (as := as) (bs := bs) a r, 0, d, e => by
    simp only [List.getElem?_cons_zero, Option.some.injEq] at e
    subst e
    exact ⟨_, as, rfl, a, fun b m => List.mem_append_left _ m⟩
  | _, _, _, .cons (as := as) (bs := bs) a r, i + 1, d, e => by
    simp only [List.getElem?_cons_succ] at e ⊢
    obtain ⟨v, bs', e1, r1, m1⟩ := readsAll_at r i d e
    exact ⟨v, bs', e1, r1, fun b m => List.mem_append_right _ (m1 b m)⟩
theorem canLayAll_at : ∀ {ds : List PyData}, PyData.canLayAll0 ds = true → ∀ (i : Nat) (d : PyData), ds[i]? = some d → d.canLay0 = true
  | [], _, i, d, e => by simp at e
  | x :: xs, h, 0, d, e => by
    rw [PyData.canLayAll0, Bool.and_eq_true] at h
    simp only [List.getElem?_cons_zero, Option.some.injEq] at e
    rw [← e]; exact h.1
  | x :: xs, h, i + 1, d, e => by
    rw [PyData.canLayAll0, Bool.and_eq_true] at h
    simp only [List.getElem?_cons_succ] at e
    exact canLayAll_at h.2 i d e

theorem wpAny_subTail {value slice : PySem.Expr} {o i : Value} {T id : String} (hT : s.TypeIs o T) (hl : typeLookup (.type T) "__getitem__" = pure (some (.builtin id)))
    (hs : subscripted slice false o i = operate [o, i] (getItem o i)) (h : wpAny (model c.prog c.w) A (getItem o i) Q E s) : wpAny (model c.prog c.w) A (subscriptTail value slice o i) Q E s := by
  unfold subscriptTail
  refine wpAny_bind ?_
  rw [getitemInPython_of_ne hT.not_modules]
  refine wpAny_bind (wpAny_specialOf hT hl ?_)
  have fin : wpAny (model c.prog c.w) A (subscripted slice false o i) (fun r s₃ => wpAny (model c.prog c.w) A (letTemporaryGo value o r >>= fun _ => pure r) Q E s₃) E s := by
    rw [hs]
    exact wpAny_operating (wpAny_mono h (fun r s₃ h₃ => wpAny_bind (wpAny_letTemporaryGo (wpAny_pure h₃))) fun _ _ x => x)
  first
    | exact wpAny_pure (wpAny_bind fin)
    | exact wpAny_bind (wpAny_pure (wpAny_bind fin))
    | exact wpAny_bind fin

theorem getElem_toArray {vs : List Value} {i : Nat} {v : Value} (e : vs[i]? = some v) : vs.toArray[i]? = some v := by simpa using e

theorem seqIndex_nat {i : Int} {n : Nat} (h0 : 0 ≤ i) (h : i.toNat < n) : seqIndex? i n = some i.toNat := by
  have h1 : ¬ i < 0 := by omega
  have h2 : i < (n : Int) := by omega
  unfold seqIndex?
  simp only [h1, if_false, h0, h2, decide_true, Bool.and_self, if_true]

/-- an item -/
theorem itemD_ok {value slice : PySem.Expr} {x y : PyData} {v u : Value} (hs : ∀ o i, subscripted slice false o i = operate [o, i] (getItem o i)) (hb : c.g.StaysIn s.heap) (hr : RowAt c s.heap k) (hv : VR c s.heap v (.d x)) (hw : VR c s.heap u (.d y))
    (p : PostE c fs s (ofO k (itemD x y)) Q E) : wpAny (model c.prog c.w) A (subscriptTail value slice v u) Q E s := by
  unfold itemD at p
  split at p
  · rename_i xs i
    obtain ⟨t', rfl⟩ := vr_int_inv hw
    obtain ⟨a, vs, as, rfl, _, hl, r, hc, ha⟩ := vr_lst_inv hv
    split at p
    · rename_i h0 h1
      have h0 := of_decide_eq_true h0
      have h1 := of_decide_eq_true h1
      cases e : xs[i.toNat]? with
      | none => rw [e] at p; exact p.elim
      | some d =>
        rw [e] at p
        obtain ⟨v, bs, e1, r1, m1⟩ := readsAll_at r _ _ e
        exact wpAny_subTail hl.typeIs slot_list_getitem.lookup (hs _ _) (wpAny_getItem_list hl h0 (by omega) (getElem_toArray e1) (ret0 (tk := s.toks) p hb hr ⟨bs, r1, canLayAll_at hc _ _ e, fun b m => ha b (m1 b m)⟩))
    · exact p.elim
  · rename_i xs i
    obtain ⟨t', rfl⟩ := vr_int_inv hw
    obtain ⟨a, vs, as, rfl, hl, r, hc, ha⟩ := vr_tup_inv hv
    split at p
    · rename_i h0 h1
      have h0 := of_decide_eq_true h0
      have h1 := of_decide_eq_true h1
      cases e : xs[i.toNat]? with
      | none => rw [e] at p; exact p.elim
      | some d =>
        rw [e] at p
        obtain ⟨v, bs, e1, r1, m1⟩ := readsAll_at r _ _ e
        have hlt : i.toNat < vs.length := by
          rw [List.getElem?_eq_some_iff] at e1
          exact e1.1
        refine wpAny_subTail hl.typeIs slot_tuple_getitem.lookup (hs _ _) (getItem_tuple (j := i.toNat) hl (by omega) (by omega) ?_ (getElem_toArray e1) (ret0 (tk := s.toks) p hb hr ⟨bs, r1, canLayAll_at hc _ _ e, fun b m => ha b (m1 b m)⟩))
        rw [List.size_toArray]
        exact seqIndex_nat h0 hlt
    · exact p.elim
  · rename_i x i
    obtain ⟨t', rfl⟩ := vr_int_inv hw
    obtain ⟨⟨t, rfl⟩, hx⟩ := vr_str_inv hv
    split at p
    · rename_i h0 h1
      have h0 := of_decide_eq_true h0
      have h1 := of_decide_eq_true h1
      cases e : x.cps.toList[i.toNat]? with
      | none => rw [e] at p; exact p.elim
      | some d =>
        rw [e] at p
        have hlt : i.toNat < x.cps.toList.length := by
          rw [List.getElem?_eq_some_iff] at e
          exact e.1
        refine wpAny_subTail rfl F.slot_str_getitem.lookup (hs _ _) (P.getItem_str (c := d) (by rw [decide_eq_false (by omega), decide_eq_false (by omega)]; rfl) ?_ (ret0 p hb hr (vr_str _ _ ?_)))
        · rw [seqIndex_nat h0 (by rw [Array.length_toList] at hlt; exact hlt)]
          show x.cps[i.toNat]? = some d
          rw [← Array.getElem?_toList]
          exact e
        · unfold PyData.strOk at hx ⊢
          rw [← Array.all_toList, List.all_eq_true] at hx
          have := hx d (List.mem_of_getElem? e)
          simpa using this
    · exact p.elim
  · exact p.elim
end
end Mine

end

-- Snd4
section
open PySem PySem.W PyProof.Rows PySem.Calls
namespace Mine
set_option maxRecDepth 100000

section
variable {c : Cx} {fs : List Env} {A : Around} {s : Shared} {k : Nat} {E : Value → Shared → Prop} {Q : Value → Shared → Prop}

noncomputable def tyName : Nat → String
  | 0 => "int"
  | 1 => "bool"
  | 2 => "str"
  | _ => "tuple"

theorem isiD_ok {T : Nat} {x : PyData} {v : Value} (hb : c.g.StaysIn s.heap) (hr : RowAt c s.heap k) (hv : VR c s.heap v (.d x)) (p : PostE c fs s (ofB k (isiD T x)) Q E) :
    wpAny (model c.prog c.w) A (call (.builtin "isinstance") [v, .type (tyName T)]) Q E s := by
  have fin : ∀ b, PostE c fs s (ofB k (some b)) Q E → Q (.bool b) s := fun b p => ret0 (tk := s.toks) p hb hr (vr_bool b)
  have fin1 : ∀ b, PostE c fs s (ofB k (some b)) Q E → Q (.bool b) { s with toks := s.toks + 1 } := fun b p => ret0 p hb hr (vr_bool b)
  unfold isiD at p
  split at p
  · obtain ⟨t, rfl⟩ := vr_int_inv hv
    exact IsiPair.int_int (fin _ p)
  · obtain ⟨⟨t, rfl⟩, _⟩ := vr_str_inv hv
    exact IsiPair.str_int (fin1 _ p)
  · obtain ⟨t, rfl⟩ := vr_int_inv hv
    exact IsiPair.int_bool (fin1 _ p)
  · obtain rfl := vr_bool_inv hv
    exact IsiPair.bool_bool (fin _ p)
  · obtain rfl := vr_bool_inv hv
    exact IsiPair.bool_int (fin _ p)
  · obtain ⟨⟨t, rfl⟩, _⟩ := vr_str_inv hv
    exact IsiPair.str_str (fin _ p)
  · obtain ⟨t, rfl⟩ := vr_int_inv hv
    exact IsiPair.int_str (fin1 _ p)
  · obtain ⟨a, vs, as, rfl, ⟨o, e, hc, _⟩, _⟩ := vr_tup_inv hv
    exact IsiPair.tuple_tuple e hc (fin _ p)
  · obtain ⟨a, vs, as, rfl, _, ⟨o, e, hc, _⟩, _⟩ := vr_lst_inv hv
    exact IsiPair.list_tuple e hc (fin1 _ p)
  · exact p.elim

theorem lenD_ok {x : PyData} {v : Value} (hb : c.g.StaysIn s.heap) (hr : RowAt c s.heap k) (hv : VR c s.heap v (.d x))
    (p : PostE c fs s (match lenD x with
      | some n => .ok (.d (.int n)) k
      | none => .bad) Q E) :
    wpAny (model c.prog c.w) A (call (.builtin "len") [v]) Q E s := by
  unfold lenD at p
  split at p
  · rename_i n e
    split at e
    · split at e
      · rename_i hs
        have hs := Nat.le_of_ble_eq_true hs
        injection e with e
        subst e
        obtain ⟨a, vs, as, rfl, ht, r, _, _⟩ := vr_tup_inv hv
        have hl := readsAll_len r
        refine len_tuple ht (by rw [List.size_toArray]; omega) ?_
        rw [List.size_toArray, hl]
        exact ret0 p hb hr (vr_int _ _)
      · cases e
    · split at e
      · rename_i hs
        have hs := Nat.le_of_ble_eq_true hs
        injection e with e
        subst e
        obtain ⟨a, vs, as, rfl, _, ht, r, _, _⟩ := vr_lst_inv hv
        have hl := readsAll_len r
        refine len_list ht (by rw [List.size_toArray]; omega) ?_
        rw [List.size_toArray, hl]
        exact ret0 p hb hr (vr_int _ _)
      · cases e
    · cases e
  · exact p.elim

theorem idxL_at (x : List Nat) : ∀ {ys : List PyData} {j : Nat}, idxL x ys = some j → ∃ ss : List Str, ys = ss.map PyData.str ∧ ∃ hj : j < ss.length, leq ss[j].cps.toList x = true ∧ ∀ m (hm : m < ss.length), m < j → leq ss[m].cps.toList x = false
  | [], j, h => by cases h
  | .str y :: r, j, h => by
    rw [idxL] at h
    split at h
    · rename_i h1
      split at h
      · rename_i h2
        injection h with h
        subst h
        obtain ⟨ss, e, _⟩ := inL_any x h2
        exact ⟨y :: ss, by rw [e]; rfl, Nat.zero_lt_succ _, h1, fun m _ hm => absurd hm (Nat.not_lt_zero _)⟩
      · cases h
    · rename_i h1
      split at h
      · rename_i j' h2
        injection h with h
        subst h
        obtain ⟨ss, e, hj, h3, h4⟩ := idxL_at x h2
        refine ⟨y :: ss, by rw [e]; rfl, Nat.succ_lt_succ hj, h3, fun m hm hlt => ?_⟩
        cases m with
        | zero => exact h1
        | succ m => exact h4 m (Nat.lt_of_succ_lt_succ hm) (Nat.lt_of_succ_lt_succ hlt)
      · cases h
  | .none :: _, _, h | .bool _ :: _, _, h | .int _ :: _, _, h | .list _ :: _, _, h | .tuple _ :: _, _, h | .dict _ :: _, _, h => by simp [idxL] at h

theorem isStr_at {vs : List Value} {ss : List Str} (hi : StrsAre vs ss) (k : Str) : ∀ (j : Nat) (h1 : j < vs.length) (h2 : j < ss.length), isStrOf k vs[j] = (ss[j] == k) := by
  induction hi with
  | nil => intro j h1; exact absurd h1 (Nat.not_lt_zero _)
  | cons y t h ih =>
    intro j h1 h2
    cases j with
    | zero => rfl
    | succ j => exact ih j (Nat.lt_of_succ_lt_succ h1) (Nat.lt_of_succ_lt_succ h2)

theorem index_ok {xs : List PyData} {y : Str} {v u : Value} {j : Nat} (hsz : xs.length < 1000000) (hb : c.g.StaysIn s.heap) (hr : RowAt c s.heap k) (hv : VR c s.heap v (.d (.list xs))) (hw : VR c s.heap u (.d (.str y))) (e : idxL y.cps.toList xs = some j)
    (p : PostE c fs s (.ok (.d (.int (Int.ofNat j))) k) Q E) : wpAny (model c.prog c.w) A (call (.builtin "list.index") [v, u]) Q E s := by
  obtain ⟨⟨t, rfl⟩, _⟩ := vr_str_inv hw
  obtain ⟨a, vs, as, rfl, _, hl, r, _, _⟩ := vr_lst_inv hv
  obtain ⟨ss, rfl, hj, h1, h2⟩ := idxL_at _ e
  have hi := strsAre_of r
  have hlen : vs.length = ss.length := by rw [readsAll_len r, List.length_map]
  rw [List.length_map] at hsz
  obtain ⟨⟨cls, dd, data, sl⟩, ho, hc, n, hd⟩ := id hl
  simp only at hc hd
  subst hc hd
  refine call_meets PySem.F.slot_list_index ⟨_, ho, rfl⟩ PySem.F.entry_list_index (PySem.F.args_list_index_2 _ _)
    (PySem.SeqAt.list_indexAt a vs.toArray n dd sl (.str y t) (isStrOf y) j (by simpa [hlen] using hj) (by omega) ?_ ?_) ⟨ho, fun z hz => (eq_isStrOf y t hi z (by simpa using hz)).at _ _, ret0 p hb hr (vr_int _ _)⟩
  · show isStrOf y vs[j] = true
    rw [isStr_at hi y j (by omega) hj, ← leq_str]
    exact h1
  · intro m hm hlt
    show isStrOf y vs[m] = false
    rw [isStr_at hi y m (by simpa using hm) (by omega), ← leq_str]
    exact h2 m (by omega) hlt

theorem idxD_ok {x y : PyData} {v u : Value} (hb : c.g.StaysIn s.heap) (hr : RowAt c s.heap k) (hv : VR c s.heap v (.d x)) (hw : VR c s.heap u (.d y))
    (p : PostE c fs s (match idxD x y with
      | some j => .ok (.d (.int (Int.ofNat j))) k
      | none => .bad) Q E) : (∃ a its, v = .ref a ∧ s.heap.IsList a its ∧ s.heap.NoDictAt (.ref a)) ∧ wpAny (model c.prog c.w) A (call (.builtin "list.index") [v, u]) Q E s := by
  unfold idxD at p
  split at p
  · rename_i j e
    split at e
    · split at e
      · rename_i hs
        have hs := Nat.le_of_ble_eq_true hs
        obtain ⟨a, vs, as, rfl, hk, hl, _⟩ := vr_lst_inv hv
        refine ⟨⟨a, _, rfl, hl, ?_⟩, index_ok (by omega) hb hr hv hw e p⟩
        obtain ⟨_, o, xs, n, e, d, z⟩ := hk
        exact ⟨o, e, z⟩
      · cases e
    · cases e
  · exact p.elim

theorem noDict {h : Heap} {a : Addr} (x : Lk c h a) : h.NoDictAt (.ref a) := by
  obtain ⟨_, o, xs, n, e, d, z⟩ := x
  exact ⟨o, e, z⟩

theorem lastIs_at (d : Nat) : ∀ l : List Nat, lastIs d l = (l.getLast? == some d)
  | [] => rfl
  | [x] => by
    rw [lastIs, List.getLast?_singleton]
    cases h : Nat.beq x d with
    | true => rw [Nat.eq_of_beq_eq_true h]; simp
    | false =>
      have := Nat.ne_of_beq_eq_false h
      simp [this]
  | _ :: y :: r => by
    rw [lastIs, lastIs_at d (y :: r), List.getLast?_cons_cons]
theorem initL_at : ∀ l : List Nat, initL l = l.dropLast
  | [] => rfl
  | [_] => rfl
  | x :: y :: r => by rw [initL, initL_at (y :: r)]; rfl
end
theorem range_get (l : List Nat) (n : Nat) (h : n ≤ l.length) : ((List.range n).filterMap fun i => l[i]?) = l.take n := by
  induction n with
  | zero => rfl
  | succ n ih =>
    rw [List.range_succ, List.filterMap_append, ih (by omega)]
    have e : l[n]? = some l[n] := by simp
    simp only [List.filterMap_cons, e, List.filterMap_nil]
    rw [List.take_add_one, e]
    rfl
theorem cut_eq (x : Str) : Txt.slice x none (some (-1)) = ⟨(initL x.cps.toList).toArray⟩ := by
  rw [initL_at]
  obtain ⟨⟨l⟩⟩ := x
  have hi : Builtin.Str.strSliceIndices none (some (-1)) 1 l.length = List.range (l.length - 1) := by
    unfold Builtin.Str.strSliceIndices sliceRange
    simp only [show (1 : Int) > 0 by decide, show (-1 : Int) < 0 by decide, if_true]
    by_cases h0 : l.length = 0
    · rw [h0]; rfl
    · have h1 : max 0 (min (-1 + (l.length : Int)) l.length) = ((l.length - 1 : Nat) : Int) := by omega
      rw [h1]
      by_cases h2 : l.length = 1
      · rw [h2]; rfl
      · rw [if_pos (by omega)]
        have h3 : ((((l.length - 1 : Nat) : Int) - 0 + 1 - 1) / 1).toNat = l.length - 1 := by omega
        rw [h3]
        conv => rhs; rw [← List.map_id (List.range (l.length - 1))]
        apply List.map_congr_left
        intro a _
        simp
  show (if ((1 : Int) == 1 && (Builtin.Str.strSliceIndices none (some (-1)) 1 l.length).length == l.length) = true then _ else _) = _
  rw [hi, List.length_range]
  by_cases h0 : l.length = 0
  · have : l = [] := List.eq_nil_of_length_eq_zero h0
    subst this
    rfl
  · have : (((1 : Int) == 1) && (l.length - 1 == l.length)) = false := by
      simp
      omega
    rw [this, if_neg (by decide)]
    congr 1
    show ((Builtin.Str.strSliceIndices none (some (-1)) 1 l.length).filterMap fun i => (Array.mk l)[i]?).toArray = (l.dropLast).toArray
    rw [hi]
    have e := range_get l (l.length - 1) (by omega)
    simp only [List.getElem?_toArray, e, List.dropLast_eq_take]
end Mine

end

-- Snd5
section
open PySem PySem.W PyProof.Rows PySem.Calls
namespace Mine
set_option maxRecDepth 100000

/-- the built-in names that the text reads -/
noncomputable def biN : List (Str × Value) := [(Str.ofString "isinstance", .builtin "isinstance"), (Str.ofString "int", .type "int"), (Str.ofString "bool", .type "bool"), (Str.ofString "str", .type "str"), (Str.ofString "tuple", .type "tuple"), (Str.ofString "len", .builtin "len"), (Str.ofString "range", .type "range")]

structure FnAt (c : Cx) (f : Nat) (fa : Addr) : Prop where
  bound : c.mg (nameOf f) = some (.ref fa)
  ob : ∃ o fd, c.g.get? fa = some o ∧ o.data = .func fd

structure Top0 (c : Cx) : Prop where
  ns : c.g.Ns mainGlobals c.mg
  nb : c.g.Ns builtinsNs c.mb
  bi : ∀ x v, (x, v) ∈ biN → c.mg x = none ∧ c.mb x = some v
  fn : ∀ f, f < 29 → ∃ fa, FnAt c f fa

noncomputable def tyStr : Nat → Str
  | 0 => Str.ofString "int"
  | 1 => Str.ofString "bool"
  | 2 => Str.ofString "str"
  | _ => Str.ofString "tuple"

/-- a method's call is a plain one -/
noncomputable def MethEq (o : Expr) (x : Str) (p0 : Pos) (args : List Expr) (pos : Pos) : Prop := ∀ env : Env, ∃ pl : Sem Bool, eval (.Call (.Attribute o x p0) args [] pos) env = (do
  let ov ← eval o env
  standAt p0.atName
  let (f, first) ← holding [ov] (getMethod ov x pl)
  callWith pos f first (backTo pos (starEach args env)) [])

noncomputable def mlen : MEs → Nat
  | .nil => 0
  | .cons _ r => mlen r + 1

mutual
inductive CkE (sc : Scope) (sl : List Str) : ME → Expr → Prop
  | loc {i x pos} : sl[i]? = some x → sc.names.lookup x = some .local → (x == ("__debug__" : Str)) = false → CkE sc sl (.loc i) (.Name x pos)
  | int {i kk pos} : CkE sc sl (.lit (.int i)) (.Constant (.int i) kk pos)
  | str {x y kk pos} : y = x → PyData.strOk x = true → CkE sc sl (.lit (.str x)) (.Constant (.str y) kk pos)
  | bool {b kk pos} : CkE sc sl (.lit (.bool b)) (.Constant (.bool b) kk pos)
  | none {kk pos} : CkE sc sl (.lit .none) (.Constant .none kk pos)
  | bin {o a b l r pos} : CkE sc sl a l → CkE sc sl b r → CkE sc sl (.bin o a b) (.BinOp l o r pos)
  | neg {a x pos} : CkE sc sl a x → CkE sc sl (.neg a) (.UnaryOp .USub x pos)
  | not {a x pos} : CkE sc sl a x → CkE sc sl (.not a) (.UnaryOp .Not x pos)
  | cmp {o a b l r pos} : CkE sc sl a l → CkE sc sl b r → behindInMarks o r = false → CkE sc sl (.cmp o a b) (.Compare l [o] [r] pos)
  | cmp2 {o1 o2 a b d l r1 r2 pos} : CkE sc sl a l → CkE sc sl b r1 → CkE sc sl d r2 → lastMarks [o1, o2] [r1, r2] = false → CkE sc sl (.cmp2 o1 o2 a b d) (.Compare l [o1, o2] [r1, r2] pos)
  | and2 {a r e1 e2 rest pos} : CkE sc sl a e1 → CkE sc sl r (.BoolOp .And (e2 :: rest) pos) → CkE sc sl (.and a r) (.BoolOp .And (e1 :: e2 :: rest) pos)
  | and1 {a e pos} : CkE sc sl a e → CkE sc sl a (.BoolOp .And [e] pos)
  | or2 {a r e1 e2 rest pos} : CkE sc sl a e1 → CkE sc sl r (.BoolOp .Or (e2 :: rest) pos) → CkE sc sl (.or a r) (.BoolOp .Or (e1 :: e2 :: rest) pos)
  | or1 {a e pos} : CkE sc sl a e → CkE sc sl a (.BoolOp .Or [e] pos)
  | ite {t a b t' a' b' pos} : CkE sc sl t t' → CkE sc sl a a' → CkE sc sl b b' → CkE sc sl (.ite t a b) (.IfExp t' a' b' pos)
  | tup {l es kk pos} : Nat.ble (mlen l) 1000 = true → CkEs sc sl l es → CkE sc sl (.tup l) (.Tuple es kk pos)
  | lst {l es pos} : Nat.ble (mlen l) 1000 = true → CkEs sc sl l es → CkE sc sl (.lst l) (.List es pos)
  | item {a i v u pos} : CkE sc sl a v → CkE sc sl i u → (∀ o q, subscripted u false o q = operate [o, q] (getItem o q)) → CkE sc sl (.item a i) (.Subscript v u pos)
  | cut {a x p0 kk p1 p2 p3 pos} : CkE sc sl a (.Name x p0) → CkE sc sl (.cut a) (.Subscript (.Name x p0) (.Slice Option.none (some (.UnaryOp .USub (.Constant (.int 1) kk p1) p2)) Option.none p3) pos)
  | call {f l es x p0 pos} : x = nameOf f → Nat.blt f 29 = true → sc.names.lookup x = some .globalImplicit → (x == ("__debug__" : Str)) = false → CkEs sc sl l es → CkE sc sl (.call f l) (.Call (.Name x p0) es [] pos)
  | isi {T a e x p0 p1 y pos} : x = Str.ofString "isinstance" → y = tyStr T → Nat.blt T 4 = true → sc.names.lookup x = some .globalImplicit → sc.names.lookup y = some .globalImplicit → CkE sc sl a e → CkE sc sl (.isi T a) (.Call (.Name x p0) [e, .Name y p1] [] pos)
  | len {a e x p0 pos} : x = Str.ofString "len" → sc.names.lookup x = some .globalImplicit → CkE sc sl a e → CkE sc sl (.len a) (.Call (.Name x p0) [e] [] pos)
  | index {a b o e x p0 pos} : x = Str.ofString "index" → MethEq o x p0 [e] pos → CkE sc sl a o → CkE sc sl b e → CkE sc sl (.index a b) (.Call (.Attribute o x p0) [e] [] pos)
  | endI {a o x y kk p0 p1 pos} : x = Str.ofString "endswith" → y = Str.mk #[73] → MethEq o x p0 [.Constant (.str y) kk p1] pos → CkE sc sl a o → CkE sc sl (.endI a) (.Call (.Attribute o x p0) [.Constant (.str y) kk p1] [] pos)
inductive CkEs (sc : Scope) (sl : List Str) : MEs → List Expr → Prop
  | nil : CkEs sc sl .nil []
  | cons {a r e es} : CkE sc sl a e → CkEs sc sl r es → CkEs sc sl (.cons a r) (e :: es)
end

noncomputable def VRs (c : Cx) (h : Heap) : List Value → List V → Prop
  | [], [] => True
  | v :: vs, y :: ys => VR c h v y ∧ VRs c h vs ys
  | _, _ => False

noncomputable def EnvOk (c : Cx) (h : Heap) (sl : List Str) (ρ : List V) (m : Str → Option Value) : Prop :=
  ∀ (i : Nat) (x : Str), sl[i]? = some x → ∀ y : V, ρ[i]? = some y → y ≠ .un → ∃ v, m x = some v ∧ VR c h v y

/-- a frame of the text: its names, the frames, the draws -/
structure Fm (c : Cx) (sl : List Str) (fs : List Env) (L : Addr) (ρ : List V) (h : Heap) (k : Nat) : Prop where
  fr : ∃ m, Fr c.g L h m ∧ EnvOk c h sl ρ m
  ff : h.FunFrames c.g fs
  row : RowAt c h k
  nra : c.ra ∉ frs fs
  Lra : L ≠ c.ra

theorem ff_up {c : Cx} {h h' : Heap} {F : List Addr} {ex : Addr → Prop} (K : Keep F ex h h') : ∀ {fs : List Env}, (∀ b ∈ frs fs, ¬ ex b) → h.FunFrames c.g fs → h'.FunFrames c.g fs
  | [], _, _ => trivial
  | env :: rest, hx, ⟨hk, ⟨L, o, hf, hn, ho, hd⟩, hr⟩ => by
    obtain ⟨sl, e⟩ := K.at (hx L (List.mem_filterMap.mpr ⟨env, .head _, hf⟩)) ho
    exact ⟨hk, ⟨L, _, hf, hn, e, hd⟩, ff_up K (fun b m => hx b (by
      obtain ⟨e', m', z⟩ := List.mem_filterMap.mp m
      exact List.mem_filterMap.mpr ⟨e', .tail _ m', z⟩)) hr⟩

theorem ns_up {h h' : Heap} {F : List Addr} {ex : Addr → Prop} (K : Keep F ex h h') {L : Addr} {m : Str → Option Value} (n : ¬ ex L) (x : h.Ns L m) : h'.Ns L m := by
  obtain ⟨o, es, ep, e, d, a, b⟩ := x
  obtain ⟨sl, e'⟩ := K.at n e
  exact ⟨_, es, ep, e', d, a, b⟩

theorem exRa {c : Cx} {h : Heap} : ∀ b, b = c.ra → b = c.ra ∨ ∃ m, h.Ns b m := fun _ e => .inl e

theorem Fm.up {c : Cx} {sl : List Str} {fs : List Env} {L : Addr} {ρ : List V} {s : Shared} {k : Nat} {h1 : Heap} {k1 : Nat} (x : Fm c sl fs L ρ s.heap k) (B : Bh c fs s h1 k1) : Fm c sl fs L ρ h1 k1 := by
  obtain ⟨⟨m, F, e⟩, ff, row, nra, Lra⟩ := x
  refine ⟨⟨m, ⟨ns_up B.keep Lra F.ns, B.base, F.above⟩, fun i z hz y hy hn => ?_⟩, ff_up B.keep (fun b m q => nra (q ▸ m)) ff, B.row, nra, Lra⟩
  obtain ⟨v, hv, hr⟩ := e i z hz y hy hn
  exact ⟨v, hv, hr.up B.keep row exRa⟩

theorem VRs.up {c : Cx} {F : List Addr} {h h' : Heap} {k : Nat} (K : Keep F (· = c.ra) h h') (r : RowAt c h k) : ∀ {vs : List Value} {ys : List V}, VRs c h vs ys → VRs c h' vs ys
  | [], [], _ => trivial
  | _ :: _, _ :: _, ⟨a, b⟩ => ⟨a.up K r exRa, VRs.up K r b⟩
  | [], _ :: _, x => x
  | _ :: _, [], x => x
theorem VRs.data {c : Cx} {h : Heap} : ∀ {vs : List Value} {ys : List V} {xs : List PyData}, VRs c h vs ys → data ys = some xs → ∃ as, ReadsAll h vs xs as ∧ PyData.canLayAll0 xs = true ∧ ∀ a ∈ as, Lk c h a
  | [], [], xs, _, e => by
    injection e with e
    subst e
    exact ⟨[], .nil, rfl, fun _ m => nomatch m⟩
  | v :: vs, .d x :: ys, xs, ⟨a, b⟩, e => by
    rw [Mine.data] at e
    split at e
    · rename_i l e1
      injection e with e
      subst e
      obtain ⟨as, r, hl, ha⟩ := a
      obtain ⟨bs, r', hl', ha'⟩ := VRs.data b e1
      exact ⟨as ++ bs, .cons r r', by rw [PyData.canLayAll0, hl, hl']; rfl, fun q m => (List.mem_append.mp m).elim (ha q) (ha' q)⟩
    · cases e
  | _ :: _, .un :: _, _, _, e => by cases e
  | _ :: _, .row :: _, _, _, e => by cases e
  | [], _ :: _, _, x, _ => x.elim
  | _ :: _, [], _, x, _ => x.elim

theorem VRs.length {c : Cx} {h : Heap} : ∀ {vs : List Value} {ys : List V}, VRs c h vs ys → vs.length = ys.length
  | [], [], _ => rfl
  | _ :: _, _ :: _, ⟨_, b⟩ => by rw [List.length_cons, List.length_cons, VRs.length b]
  | [], _ :: _, x => x.elim
  | _ :: _, [], x => x.elim
theorem evEs_len {call : Nat → List V → Nat → Out} {ρ : List V} : ∀ {l : MEs} {k : Nat} {ys : List V} {k' : Nat}, evEs call ρ l k = .ok ys k' → ys.length = mlen l
  | .nil, _, _, _, e => by
    rw [evEs] at e
    cases e
    rfl
  | .cons a r, k, ys, k', e => by
    rw [evEs] at e
    split at e
    · split at e
      · rename_i e2
        cases e
        rw [List.length_cons, evEs_len e2]
        rfl
      · cases e
      · cases e
    · cases e
    · cases e

noncomputable def PostEs (c : Cx) (fs : List Env) (s : Shared) (r : Outs) (Q : List Value → Shared → Prop) (E : Value → Shared → Prop) : Prop := match r with
  | .ok ys k => ∀ vs h' tk', c.g.StaysIn h' → RowAt c h' k → Keep (frs fs) (· = c.ra) s.heap h' → VRs c h' vs ys → Q vs { s with heap := h', toks := tk' }
  | .exc k => ∀ e h' tk', Exc c fs s.heap k e h' → E (.ref e) { s with heap := h', toks := tk' }
  | .bad => False

/-- what a call of the text's does -/
noncomputable def CallOk (c : Cx) (call : Nat → List V → Nat → Out) (N : Nat) : Prop :=
  ∀ (f : Nat) (fa : Addr) (vs : List V) (k : Nat) (A : Around) (fs : List Env) (s : Shared) (args : List Value) (Q E : Value → Shared → Prop), f < 29 → FnAt c f fa → Ar c A N fs → s.heap.FunFrames c.g fs → c.g.StaysIn s.heap → RowAt c s.heap k →
    VRs c s.heap args vs → PostE c fs s (call f vs k) Q E → wpAny (model c.prog c.w) A (PySem.call (.ref fa) args) Q E s

section
variable {c : Cx} {sc : Scope} {sl : List Str}
theorem star_of {a : ME} {e : Expr} (h : CkE sc sl a e) {rest : List Expr} {env : Env} : starEach (e :: rest) env = (false, eval e env) :: starEach rest env := by
  cases h <;> rfl
end
end Mine

end

-- Snd6
section
open PySem PySem.W PyProof.Rows PySem.Calls
namespace Mine
set_option maxRecDepth 100000

section
variable {c : Cx} {call : Nat → List V → Nat → Out} {N : Nat} {sc : Scope} {sl : List Str} {name : Str} {L a : Addr} {cd : Value} {ρ : List V}

noncomputable def EOk (c : Cx) (call : Nat → List V → Nat → Out) (N : Nat) (sc : Scope) (sl : List Str) (name : Str) (L a : Addr) (cd : Value) (ρ : List V) (me : ME) (e : Expr) : Prop :=
  ∀ (A : Around) (fs : List Env) (s : Shared) (k : Nat) (Q E : Value → Shared → Prop), Ar c A N fs → Fm c sl fs L ρ s.heap k → PostE c fs s (evE call ρ me k) Q E →
    wpAny (model c.prog c.w) A (eval e (envOf name sc L a cd)) Q E s
noncomputable def TOk (c : Cx) (call : Nat → List V → Nat → Out) (N : Nat) (sc : Scope) (sl : List Str) (name : Str) (L a : Addr) (cd : Value) (ρ : List V) (me : ME) (e : Expr) : Prop :=
  ∀ (A : Around) (fs : List Env) (s : Shared) (k : Nat) (Q : Bool → Shared → Prop) (E : Value → Shared → Prop), Ar c A N fs → Fm c sl fs L ρ s.heap k → PostB c fs s (evE call ρ me k) Q E →
    wpAny (model c.prog c.w) A (isTrue e (envOf name sc L a cd) (eval e (envOf name sc L a cd))) Q E s
noncomputable def EsOk (c : Cx) (call : Nat → List V → Nat → Out) (N : Nat) (sc : Scope) (sl : List Str) (name : Str) (L a : Addr) (cd : Value) (ρ : List V) (l : MEs) (es : List Expr) : Prop :=
  ∀ (A : Around) (fs : List Env) (s : Shared) (k : Nat) (pos : Pos) (Q : List Value → Shared → Prop) (E : Value → Shared → Prop), Ar c A N fs → Fm c sl fs L ρ s.heap k → PostEs c fs s (evEs call ρ l k) Q E →
    wpAny (model c.prog c.w) A (spliced (backTo pos (starEach es (envOf name sc L a cd)))) Q E s

theorem Fm.base {fs : List Env} {h : Heap} {k : Nat} (x : Fm c sl fs L ρ h k) : c.g.StaysIn h := by
  obtain ⟨_, F, _⟩ := x.fr
  exact F.keep

theorem ld_bi (hc : Top0 c) (hk : sc.kind = .function) {x : Str} {v : Value} {pos : Pos} {A : Around} {s : Shared} {Q E : Value → Shared → Prop} (hb : c.g.StaysIn s.heap) (hx : (x, v) ∈ biN) (hl : sc.names.lookup x = some .globalImplicit)
    (h : Q v s) : wpAny (model c.prog c.w) A (eval (.Name x pos) (envOf name sc L a cd)) Q E s := by
  obtain ⟨h1, h2⟩ := hc.bi x v hx
  have hd : (x == ("__debug__" : Str)) = false := by
    simp only [biN, List.mem_cons, List.not_mem_nil, or_false, Prod.mk.injEq] at hx
    rcases hx with ⟨rfl, _⟩ | ⟨rfl, _⟩ | ⟨rfl, _⟩ | ⟨rfl, _⟩ | ⟨rfl, _⟩ | ⟨rfl, _⟩ | ⟨rfl, _⟩ <;> decide +kernel
  exact Calls.Name_function_global hk hl (Calls.loadGlobal_builtin (env := envOf name sc L a cd) (hc.ns.keeps hb) h1 (hc.nb.keeps hb) h2 h) hd

theorem plain_true {e : Expr} {me : ME} (h : EOk c call N sc sl name L a cd ρ me e) (he : ∀ env, isTrue e env (eval e env) = (do let v ← eval e env; standAt e.pos; holding [v] (truthy v))) : TOk c call N sc sl name L a cd ρ me e := by
  intro A fs s k Q E hA hF p
  refine isTrue_plain (h A fs s k _ E hA hF (PostB.value p fun b s1 q => wpAny_truthy_bool q)) (he _)

theorem ends_I (x : Str) : Txt.endswith x (Str.mk #[73]) = lastIs 73 x.cps.toList := by
  rw [lastIs_at]
  obtain ⟨⟨l⟩⟩ := x
  unfold Txt.endswith Builtin.Str.subAt Str.length
  show (decide (0 + 1 ≤ l.length) && ((Array.mk l).extract (l.length - 1) (l.length - 1 + 1) == #[73])) = _
  rcases List.eq_nil_or_concat l with rfl | ⟨r, z, rfl⟩
  · rfl
  · rw [List.concat_eq_append]
    have h1 : (r ++ [z]).length - 1 = r.length := by simp
    rw [h1]
    have e : (Array.mk (r ++ [z])).extract r.length (r.length + 1) = #[z] := by
      apply Array.ext'
      simp [List.extract_eq_take_drop]
    rw [e]
    have h2 : decide (0 + 1 ≤ (r ++ [z]).length) = true := by simp
    rw [h2, Bool.true_and]
    show (#[z] == #[73]) = ((r ++ [z]).getLast? == some 73)
    rw [List.getLast?_append, List.getLast?_singleton]
    by_cases q : z = 73 <;> simp [q]
theorem cutD_inv {x y : PyData} (e : cutD x = some y) : ∃ s : Str, x = .str s ∧ s.cps.toList.length ≤ 1000 ∧ y = .str ⟨(initL s.cps.toList).toArray⟩ := by
  cases x with
  | str s =>
    rw [cutD] at e
    split at e
    · rename_i h
      injection e with e
      exact ⟨s, rfl, Nat.le_of_ble_eq_true h, e.symm⟩
    · cases e
  | _ => cases e
theorem strOk_init {x : Str} (h : PyData.strOk x = true) : PyData.strOk ⟨(initL x.cps.toList).toArray⟩ = true := by
  unfold PyData.strOk at *
  rw [← Array.all_toList, List.all_eq_true] at *
  intro z hz
  rw [initL_at] at hz
  exact h z (List.dropLast_subset _ hz)

set_option maxHeartbeats 4000000
mutual
theorem snd (hc : Top0 c) (hcall : CallOk c call N) (hk : sc.kind = .function) : ∀ {me : ME} {e : Expr}, CkE sc sl me e → EOk c call N sc sl name L a cd ρ me e ∧ TOk c call N sc sl name L a cd ρ me e
  | _, _, .loc (i := i) (x := x) (pos := pos) h1 h2 h3 => by
    have key : EOk c call N sc sl name L a cd ρ (.loc i) (.Name x pos) := by
      intro A fs s k Q E hA hF p
      obtain ⟨m, F, he⟩ := hF.fr
      rw [evE] at p
      cases e : ρ[i]? with
      | none => rw [e] at p; exact p.elim
      | some y =>
        rw [e] at p
        have hy : y ≠ .un := fun q => by subst q; exact p.elim
        obtain ⟨v, hv, hr⟩ := he i x h1 y e hy
        refine wpAny_Name (wpAny_loadName_local hk h2 F.ns hv ?_) h3
        cases y with
        | un => exact p.elim
        | row => exact ret0 (tk := s.toks) p hF.base hF.row hr
        | d y => exact ret0 (tk := s.toks) p hF.base hF.row hr
    exact ⟨key, plain_true key fun _ => rfl⟩
  | _, _, .int (i := i) (pos := pos) (kk := kk) => by
    have key : EOk c call N sc sl name L a cd ρ (.lit (.int i)) (.Constant (.int i) kk pos) := fun A fs s k Q E hA hF p => wpAny_Constant_int (ret0 p hF.base hF.row (vr_int _ _))
    exact ⟨key, plain_true key fun _ => rfl⟩
  | _, _, .str (y := x) (kk := kk) (pos := pos) h1 h2 => by
    subst h1
    have key : EOk c call N sc sl name L a cd ρ (.lit (.str x)) (.Constant (.str x) kk pos) := fun A fs s k Q E hA hF p => Calls.Constant_str (ret0 p hF.base hF.row (vr_str _ _ h2))
    exact ⟨key, plain_true key fun _ => rfl⟩
  | _, _, .bool (b := b) (kk := kk) (pos := pos) => by
    have key : EOk c call N sc sl name L a cd ρ (.lit (.bool b)) (.Constant (.bool b) kk pos) := fun A fs s k Q E hA hF p => Constant_bool (ret0 (tk := s.toks) p hF.base hF.row (vr_bool _))
    exact ⟨key, plain_true key fun _ => rfl⟩
  | _, _, .none (kk := kk) (pos := pos) => by
    have key : EOk c call N sc sl name L a cd ρ (.lit .none) (.Constant .none kk pos) := fun A fs s k Q E hA hF p => Constant_none (ret0 (tk := s.toks) p hF.base hF.row vr_none)
    exact ⟨key, plain_true key fun _ => rfl⟩
  | _, _, .bin (o := o) (a := x) (b := y) (l := l) (r := r) (pos := pos) hx hy => by
    have key : EOk c call N sc sl name L a cd ρ (.bin o x y) (.BinOp l o r pos) := by
      intro A fs s k Q E hA hF p
      refine wpAny_BinOp ((snd hc hcall hk hx).1 A fs s k _ E hA hF (PostE.one p fun d k1 v h1 tk1 _ B1 hv p1 => ?_))
      refine (snd hc hcall hk hy).1 A fs _ k1 _ E hA (hF.up B1) (PostE.one p1 fun d' k2 u h2 tk2 _ B2 hu p2 => ?_)
      exact binD_ok (by have := hA.units; omega) B2.base B2.row (hv.up B2.keep B1.row exRa) hu p2
    exact ⟨key, plain_true key fun _ => rfl⟩
  | _, _, .neg (a := x) (x := l) (pos := pos) hx => by
    have key : EOk c call N sc sl name L a cd ρ (.neg x) (.UnaryOp .USub l pos) := by
      intro A fs s k Q E hA hF p
      refine UnaryOp_ ((snd hc hcall hk hx).1 A fs s k _ E hA hF (PostE.one p fun d k1 v h1 tk1 _ B1 hv p1 => ?_))
      cases d with
      | int i =>
        obtain ⟨t, rfl⟩ := vr_int_inv hv
        exact P.neg_int (ret0 p1 B1.base B1.row (vr_int _ _))
      | _ => exact p1.elim
    exact ⟨key, plain_true key fun _ => rfl⟩
  | _, _, .not (a := x) (x := l) (pos := pos) hx => by
    refine ⟨fun A fs s k Q E hA hF p => ?_, fun A fs s k Q E hA hF p => ?_⟩
    · refine UnaryOp_ ((snd hc hcall hk hx).1 A fs s k _ E hA hF (PostE.one p fun d k1 v h1 tk1 _ B1 hv p1 => ?_))
      cases d with
      | bool b =>
        obtain rfl := vr_bool_inv hv
        exact not_of (wpAny_truthy_bool (ret0 (tk := tk1) p1 B1.base B1.row (vr_bool _)))
      | _ => exact p1.elim
    · refine isTrue_not ((snd hc hcall hk hx).2 A fs s k _ E hA hF ?_)
      revert p
      rw [evE]
      cases evE call ρ x k with
      | ok y k1 =>
        cases y with
        | d d =>
          cases d with
          | bool b => exact fun p => p
          | _ => exact fun p => p.elim
        | _ => exact fun p => p.elim
      | exc k1 => exact fun p => p
      | bad => exact fun p => p
  | _, _, .cmp (o := o) (a := x) (b := y) (l := l) (r := r) (pos := pos) hx hy hm => by
    have key : EOk c call N sc sl name L a cd ρ (.cmp o x y) (.Compare l [o] [r] pos) := by
      intro A fs s k Q E hA hF p
      refine wpAny_Compare1 ((snd hc hcall hk hx).1 A fs s k _ E hA hF (PostE.one p fun d k1 v h1 tk1 _ B1 hv p1 => ?_)) hm
      refine (snd hc hcall hk hy).1 A fs _ k1 _ E hA (hF.up B1) (PostE.one p1 fun d' k2 u h2 tk2 _ B2 hu p2 => ?_)
      exact cmpD_ok (by have := hA.units; omega) B2.base B2.row (hv.up B2.keep B1.row exRa) hu p2
    refine ⟨key, fun A fs s k Q E hA hF p => ?_⟩
    have p := PostB.value (Q' := fun v s1 => ∃ b, v = .bool b ∧ Q b s1) p fun b s1 q => ⟨b, rfl, q⟩
    refine wpAny_isTrue_Compare1 ((snd hc hcall hk hx).1 A fs s k _ E hA hF (PostE.one p fun d k1 v h1 tk1 _ B1 hv p1 => ?_)) hm
    refine (snd hc hcall hk hy).1 A fs _ k1 _ E hA (hF.up B1) (PostE.one p1 fun d' k2 u h2 tk2 _ B2 hu p2 => ?_)
    refine wpAny_mono (cmpD_ok (by have := hA.units; omega) B2.base B2.row (hv.up B2.keep B1.row exRa) hu p2) (fun v s1 q => ?_) fun _ _ x => x
    obtain ⟨b, rfl, q⟩ := q
    exact wpAny_truthy_bool q
  | _, _, .cmp2 (o1 := o1) (o2 := o2) (a := x) (b := y) (d := z) (l := l) (r1 := r1) (r2 := r2) (pos := pos) hx hy hz hm => by
    have hst : ∀ {A : Around} {s : Shared} {d : PyData} {k : Nat} {fs : List Env} {v : Value} {q : Option Bool} {yes : Nat → Out} {Q E : Value → Shared → Prop}, True := trivial
    refine ⟨fun A fs s k Q E hA hF p => ?_, fun A fs s k Q E hA hF p => ?_⟩
    · refine Compare_chain ((snd hc hcall hk hx).1 A fs s k _ E hA hF (PostE.one p fun d k1 v h1 tk1 _ B1 hv p1 => chain_link ?_)) hm
      refine (snd hc hcall hk hy).1 A fs _ k1 _ E hA (hF.up B1) (PostE.one p1 fun d' k2 u h2 tk2 _ B2 hu p2 => ?_)
      refine cmpD_ok (fs := fs) (k := k2) (by have := hA.units; omega) B2.base B2.row (hv.up B2.keep B1.row exRa) hu (PostB.value (PostE.tst p2 fun b k3 h3 tk3 B3 p3 => ?_) fun b s1 q => wpAny_truthy_bool q)
      cases b with
      | false => exact ret0 (tk := tk3) p3 B3.base B3.row (vr_bool _)
      | true =>
        refine chain_last ((snd hc hcall hk hz).1 A fs _ k3 _ E hA (((hF.up B1).up B2).up B3) (PostE.one p3 fun d'' k4 w h4 tk4 _ B4 hw p4 => ?_))
        exact cmpD_ok (by have := hA.units; omega) B4.base B4.row ((hu.up B3.keep B2.row exRa).up B4.keep B3.row exRa) hw p4
    · have p := PostB.value (Q' := fun v s1 => ∃ b, v = .bool b ∧ Q b s1) p fun b s1 q => ⟨b, rfl, q⟩
      refine isTrue_chain ((snd hc hcall hk hx).1 A fs s k _ E hA hF (PostE.one p fun d k1 v h1 tk1 _ B1 hv p1 => test_link ?_)) hm
      refine (snd hc hcall hk hy).1 A fs _ k1 _ E hA (hF.up B1) (PostE.one p1 fun d' k2 u h2 tk2 _ B2 hu p2 => ?_)
      refine cmpD_ok (fs := fs) (k := k2) (by have := hA.units; omega) B2.base B2.row (hv.up B2.keep B1.row exRa) hu (PostB.value (PostE.tst p2 fun b k3 h3 tk3 B3 p3 => ?_) fun b s1 q => wpAny_truthy_bool q)
      cases b with
      | false =>
        obtain ⟨b, e, q⟩ := ret0 (tk := tk3) p3 B3.base B3.row (vr_bool _)
        cases e
        exact q
      | true =>
        refine test_last ((snd hc hcall hk hz).1 A fs _ k3 _ E hA (((hF.up B1).up B2).up B3) (PostE.one p3 fun d'' k4 w h4 tk4 _ B4 hw p4 => ?_))
        refine wpAny_mono (cmpD_ok (by have := hA.units; omega) B4.base B4.row ((hu.up B3.keep B2.row exRa).up B4.keep B3.row exRa) hw p4) (fun v s1 q => ?_) fun _ _ x => x
        obtain ⟨b, rfl, q⟩ := q
        exact wpAny_truthy_bool q
  | _, _, .and2 (a := x) (r := y) (e1 := e1) (e2 := e2) (rest := rest) (pos := pos) hx hy => by
    refine ⟨fun A fs s k Q E hA hF p => ?_, fun A fs s k Q E hA hF p => ?_⟩
    · refine BoolOp_and ((snd hc hcall hk hx).1 A fs s k _ E hA hF (PostB.value (PostE.tst p fun b k1 h1 tk1 B1 p1 => ?_) fun b s1 q => wpAny_truthy_bool q))
      cases b with
      | false => exact ret0 (tk := tk1) p1 B1.base B1.row (vr_bool _)
      | true => exact (snd hc hcall hk hy).1 A fs _ k1 _ E hA (hF.up B1) p1
    · refine isTrue_and ((snd hc hcall hk hx).2 A fs s k _ E hA hF (PostB.tst p fun b k1 h1 tk1 B1 p1 => ?_))
      cases b with
      | false => exact p1 h1 tk1 B1.base B1.row Keep.refl
      | true => exact (snd hc hcall hk hy).2 A fs _ k1 _ E hA (hF.up B1) p1
  | _, _, .and1 (a := x) (e := e) (pos := pos) hx => by
    refine ⟨fun A fs s k Q E hA hF p => BoolOp_one ((snd hc hcall hk hx).1 A fs s k Q E hA hF p), fun A fs s k Q E hA hF p => ?_⟩
    refine isTrue_and (wpAny_mono ((snd hc hcall hk hx).2 A fs s k Q E hA hF p) (fun b s1 q => ?_) fun _ _ x => x)
    cases b with
    | false => exact q
    | true => exact isTrue_and_nil q
  | _, _, .or2 (a := x) (r := y) (e1 := e1) (e2 := e2) (rest := rest) (pos := pos) hx hy => by
    refine ⟨fun A fs s k Q E hA hF p => ?_, fun A fs s k Q E hA hF p => ?_⟩
    · refine BoolOp_or ((snd hc hcall hk hx).1 A fs s k _ E hA hF (PostB.value (PostE.tst p fun b k1 h1 tk1 B1 p1 => ?_) fun b s1 q => wpAny_truthy_bool q))
      cases b with
      | true => exact ret0 (tk := tk1) p1 B1.base B1.row (vr_bool _)
      | false => exact (snd hc hcall hk hy).1 A fs _ k1 _ E hA (hF.up B1) p1
    · refine isTrue_or ((snd hc hcall hk hx).2 A fs s k _ E hA hF (PostB.tst p fun b k1 h1 tk1 B1 p1 => ?_))
      cases b with
      | true => exact p1 h1 tk1 B1.base B1.row Keep.refl
      | false => exact (snd hc hcall hk hy).2 A fs _ k1 _ E hA (hF.up B1) p1
  | _, _, .or1 (a := x) (e := e) (pos := pos) hx => by
    refine ⟨fun A fs s k Q E hA hF p => BoolOp_one ((snd hc hcall hk hx).1 A fs s k Q E hA hF p), fun A fs s k Q E hA hF p => ?_⟩
    refine isTrue_or (wpAny_mono ((snd hc hcall hk hx).2 A fs s k Q E hA hF p) (fun b s1 q => ?_) fun _ _ x => x)
    cases b with
    | true => exact q
    | false => exact isTrue_or_nil q
  | _, _, .ite (t := t) (a := x) (b := y) (t' := t') (a' := a') (b' := b') (pos := pos) ht hx hy => by
    refine ⟨fun A fs s k Q E hA hF p => ?_, fun A fs s k Q E hA hF p => ?_⟩
    · refine IfExp_ ((snd hc hcall hk ht).2 A fs s k _ E hA hF (PostE.tst p fun b k1 h1 tk1 B1 p1 => ?_))
      cases b with
      | true => exact (snd hc hcall hk hx).1 A fs _ k1 _ E hA (hF.up B1) p1
      | false => exact (snd hc hcall hk hy).1 A fs _ k1 _ E hA (hF.up B1) p1
    · refine isTrue_IfExp ((snd hc hcall hk ht).2 A fs s k _ E hA hF (PostB.tst p fun b k1 h1 tk1 B1 p1 => ?_))
      cases b with
      | true => exact (snd hc hcall hk hx).2 A fs _ k1 _ E hA (hF.up B1) p1
      | false => exact (snd hc hcall hk hy).2 A fs _ k1 _ E hA (hF.up B1) p1
  | _, _, .tup (l := l) (es := es) (kk := kk) (pos := pos) hn hl => by
    have key : EOk c call N sc sl name L a cd ρ (.tup l) (.Tuple es kk pos) := by
      intro A fs s k Q E hA hF p
      refine Tuple_ (snds hc hcall hk hl A fs s k pos _ E hA hF ?_)
      rw [evE] at p
      cases e : evEs call ρ l k with
      | ok ys k1 =>
        rw [e] at p
        intro vs h1 tk1 b1 r1 K1 hv
        cases e1 : data ys with
        | none => simp only [e1] at p; exact p.elim
        | some xs =>
          simp only [e1] at p
          obtain ⟨as, r, hl', ha⟩ := hv.data e1
          have hn : vs.length ≤ 1000 := by
            rw [hv.length, evEs_len e]
            exact Nat.le_of_ble_eq_true hn
          exact wpAny_newObj_type (p _ _ _ (fun b o e => Heap.get?_push_of_some _ (b1 b o e)) (RowAt.up (F := []) (ex := fun _ => False) (Keep.push _) id r1) (K1.trans (Keep.push _)) (VR.newTuple (readsAll_push r _) hl' ha)) (by
            show vs.toArray.size ≤ sizeLine
            rw [List.size_toArray, sizeLine_eq]; omega)
      | exc k1 => rw [e] at p; exact p
      | bad => rw [e] at p; exact p.elim
    exact ⟨key, plain_true key fun _ => rfl⟩
  | _, _, .lst (l := l) (es := es) (pos := pos) hn hl => by
    have key : EOk c call N sc sl name L a cd ρ (.lst l) (.List es pos) := by
      intro A fs s k Q E hA hF p
      refine List_ (snds hc hcall hk hl A fs s k pos _ E hA hF ?_)
      rw [evE] at p
      cases e : evEs call ρ l k with
      | ok ys k1 =>
        rw [e] at p
        intro vs h1 tk1 b1 r1 K1 hv
        cases e1 : data ys with
        | none => simp only [e1] at p; exact p.elim
        | some xs =>
          simp only [e1] at p
          obtain ⟨as, r, hl', ha⟩ := hv.data e1
          have hn : vs.length ≤ 1000 := by
            rw [hv.length, evEs_len e]
            exact Nat.le_of_ble_eq_true hn
          exact wpAny_newObj_type (p _ _ _ (fun b o e => Heap.get?_push_of_some _ (b1 b o e)) (RowAt.up (F := []) (ex := fun _ => False) (Keep.push _) id r1) (K1.trans (Keep.push _)) (VR.newList r1 (readsAll_push r _) hl' ha)) (by
            show vs.toArray.size ≤ sizeLine
            rw [List.size_toArray, sizeLine_eq]; omega)
      | exc k1 => rw [e] at p; exact p
      | bad => rw [e] at p; exact p.elim
    exact ⟨key, plain_true key fun _ => rfl⟩
  | _, _, .item (a := x) (i := y) (v := l) (u := r) (pos := pos) hx hy hs => by
    have key : EOk c call N sc sl name L a cd ρ (.item x y) (.Subscript l r pos) := by
      intro A fs s k Q E hA hF p
      refine Subscript_ ((snd hc hcall hk hx).1 A fs s k _ E hA hF (PostE.one p fun d k1 v h1 tk1 _ B1 hv p1 => ?_))
      refine (snd hc hcall hk hy).1 A fs _ k1 _ E hA (hF.up B1) (PostE.one p1 fun d' k2 u h2 tk2 _ B2 hu p2 => ?_)
      exact itemD_ok hs B2.base B2.row (hv.up B2.keep B1.row exRa) hu p2
    exact ⟨key, plain_true key fun _ => rfl⟩
  | _, _, .cut (a := x) (x := z) (p0 := p0) (kk := kk) (p1 := p1) (p2 := p2) (p3 := p3) (pos := pos) hx => by
    have key : EOk c call N sc sl name L a cd ρ (.cut x) (.Subscript (.Name z p0) (.Slice Option.none (some (.UnaryOp .USub (.Constant (.int 1) kk p1) p2)) Option.none p3) pos) := by
      intro A fs s k Q E hA hF p
      refine Subscript_Slice ((snd hc hcall hk hx).1 A fs s k _ E hA hF (PostE.one p fun d k1 v h1 tk1 _ B1 hv p1 => ?_))
      cases e : cutD d with
      | none => rw [e] at p1; exact p1.elim
      | some q =>
        rw [e] at p1
        obtain ⟨y, rfl, hs, rfl⟩ := cutD_inv e
        obtain ⟨⟨t, rfl⟩, hy⟩ := vr_str_inv hv
        refine wpAny_Slice (evalPart_none_step (evalPart_some_step (UnaryOp_ (wpAny_Constant_int (P.neg_int (evalPart_none_step ?_))))))
        have hsz : y.length ≤ sizeLine := by
          rw [Array.length_toList] at hs
          rw [sizeLine_eq]
          unfold Str.length
          omega
        refine SBH.sliceItem_ns (s := { s with heap := h1, toks := tk1 + 1 + 1 }) (P := fun h' => c.g.StaysIn h' ∧ RowAt c h' k1 ∧ Keep (frs fs) (· = c.ra) h1 h') (fun h' ob ⟨q1, q2, q3⟩ => ⟨fun b o e => Heap.get?_push_of_some _ (q1 b o e), RowAt.up (F := []) (ex := fun _ => False) (Keep.push _) id q2, q3.trans (Keep.push _)⟩) ⟨B1.base, B1.row, Keep.refl⟩ (fun h' t' k' ⟨q1, q2, q3⟩ => ?_) hsz
        rw [cut_eq]
        exact p1 _ _ _ q1 q2 q3 (vr_str _ _ (strOk_init hy))
    exact ⟨key, plain_true key fun _ => rfl⟩
  | _, _, .call (f := f) (l := l) (es := es) (x := x) (p0 := p0) (pos := pos) h1 h2 h3 h4 hl => by
    have key : EOk c call N sc sl name L a cd ρ (.call f l) (.Call (.Name x p0) es [] pos) := by
      intro A fs s k Q E hA hF p
      subst h1
      obtain ⟨fa, hfa⟩ := hc.fn f (by have := Nat.le_of_ble_eq_true h2; omega)
      obtain ⟨o, fd, hob, hod⟩ := hfa.ob
      have hargs : PostEs c fs s (evEs call ρ l k) (fun vs s1 => s1.heap.get? fa = some o ∧ wpAny (model c.prog c.w) A (PySem.call (.ref fa) vs) Q E s1) E := by
        rw [evE] at p
        cases e : evEs call ρ l k with
        | ok ys k1 =>
          rw [e] at p
          intro vs h1 tk1 b1 r1 K1 hv
          have F1 := hF.up ⟨b1, r1, K1⟩
          exact ⟨b1 _ _ hob, hcall f fa ys k1 A fs _ vs Q E (by have := Nat.le_of_ble_eq_true h2; omega) hfa hA F1.ff b1 r1 hv (PostE.shift K1 p)⟩
        | exc k1 => rw [e] at p; exact p
        | bad => rw [e] at p; exact p.elim
      refine Call_ (Calls.Name_function_global hk h3 (Calls.loadGlobal_global (env := envOf name sc L a cd) (hc.ns.keeps hF.base) hfa.bound ?_) h4)
      cases hl with
      | nil =>
        refine Calls.callWith_function (o := o) (fd := fd) (args := []) (PyProof.Rows.evalArgs_none ?_)
        have := snds hc hcall hk .nil A fs s k pos _ E hA hF hargs
        have z : s.heap.get? fa = some o ∧ wpAny (model c.prog c.w) A (PySem.call (.ref fa) []) Q E s := hargs [] s.heap s.toks hF.base hF.row Keep.refl trivial
        exact ⟨⟨z.1, hod⟩, z.2⟩
      | cons he hr =>
        exact callWith_def (o := o) hod (snds hc hcall hk (.cons he hr) A fs s k pos _ E hA hF hargs) (star_of he)
    exact ⟨key, plain_true key fun _ => rfl⟩
  | _, _, .isi (T := T) (a := x) (e := e) (x := z) (p0 := p0) (p1 := p1) (y := y) (pos := pos) h1 h2 h3 h4 h5 hx => by
    have key : EOk c call N sc sl name L a cd ρ (.isi T x) (.Call (.Name z p0) [e, .Name y p1] [] pos) := by
      intro A fs s k Q E hA hF p
      subst h1
      refine Call_ (ld_bi hc hk hF.base (v := .builtin "isinstance") (by simp [biN]) h4 ?_)
      refine callWith_builtin1 ?_ (star_of hx)
      refine args_cons ((snd hc hcall hk hx).1 A fs s k _ E hA hF (PostE.one p fun d k1 v h1 tk1 _ B1 hv p1 => ?_)) (star_of hx)
      have hy : (y, Value.type (tyName T)) ∈ biN := by
        rw [h2]
        match T, h3 with
        | 0, _ => simp [biN, tyName, tyStr]
        | 1, _ => simp [biN, tyName, tyStr]
        | 2, _ => simp [biN, tyName, tyStr]
        | 3, _ => simp [biN, tyName, tyStr]
      exact args_cons (ld_bi hc hk B1.base hy h5 (args_nil (isiD_ok B1.base B1.row hv p1)))
    exact ⟨key, plain_true key fun _ => rfl⟩
  | _, _, .len (a := x) (e := e) (x := z) (p0 := p0) (pos := pos) h1 h4 hx => by
    have key : EOk c call N sc sl name L a cd ρ (.len x) (.Call (.Name z p0) [e] [] pos) := by
      intro A fs s k Q E hA hF p
      subst h1
      refine Call_ (ld_bi hc hk hF.base (v := .builtin "len") (by simp [biN]) h4 ?_)
      refine callWith_builtin1 ?_ (star_of hx)
      exact args_cons ((snd hc hcall hk hx).1 A fs s k _ E hA hF (PostE.one p fun d k1 v h1 tk1 _ B1 hv p1 => args_nil (lenD_ok B1.base B1.row hv p1))) (star_of hx)
    exact ⟨key, plain_true key fun _ => rfl⟩
  | _, _, .index (a := x) (b := y) (o := l) (e := r) (x := z) (p0 := p0) (pos := pos) h1 hM hx hy => by
    have key : EOk c call N sc sl name L a cd ρ (.index x y) (.Call (.Attribute l z p0) [r] [] pos) := by
      intro A fs s k Q E hA hF p
      subst h1
      obtain ⟨pl, hpl⟩ := hM (envOf name sc L a cd)
      refine MethodCall_ (pl := pl) ((snd hc hcall hk hx).1 A fs s k _ E hA hF (PostE.one p fun d k1 v h1 tk1 _ B1 hv p1 => ?_)) hpl
      have hF1 := hF.up B1
      have hlist : ∀ d' k2 u h2 tk2, Bh c fs { s with heap := h1, toks := tk1 } h2 k2 → VR c h2 u (.d d') → PostE c fs { s with heap := h2, toks := tk2 } (match idxD d d' with
          | some j => .ok (.d (.int (Int.ofNat j))) k2
          | none => .bad) Q E → wpAny (model c.prog c.w) A (PySem.call (.builtin "list.index") [v, u]) Q E { s with heap := h2, toks := tk2 } := fun d' k2 u h2 tk2 B2 hu p2 => (idxD_ok B2.base B2.row (hv.up B2.keep B1.row exRa) hu p2).2
      cases d with
      | list xs =>
        obtain ⟨q, vs, as, rfl, hq, hl, _⟩ := vr_lst_inv hv
        refine getMethod_list_of PySem.F.slot_list_index PySem.F.type_list_index hl (noDict hq) ?_
        exact callWith_method1 (args_cons ((snd hc hcall hk hy).1 A fs _ k1 _ E hA hF1 (PostE.one p1 fun d' k2 u h2 tk2 _ B2 hu p2 => args_nil (hlist d' k2 u h2 tk2 B2 hu p2))) (star_of hy)) (star_of hy)
      | _ => exact p1.elim
    exact ⟨key, plain_true key fun _ => rfl⟩
  | _, _, .endI (a := x) (o := l) (x := z) (y := y) (kk := kk) (p0 := p0) (p1 := p1) (pos := pos) h1 h2 hM hx => by
    have key : EOk c call N sc sl name L a cd ρ (.endI x) (.Call (.Attribute l z p0) [.Constant (.str y) kk p1] [] pos) := by
      intro A fs s k Q E hA hF p
      subst h1 h2
      obtain ⟨pl, hpl⟩ := hM (envOf name sc L a cd)
      refine MethodCall_ (pl := pl) ((snd hc hcall hk hx).1 A fs s k _ E hA hF (PostE.one p fun d k1 v h1 tk1 _ B1 hv p1 => ?_)) hpl
      cases d with
      | str w =>
        obtain ⟨⟨t, rfl⟩, hw⟩ := vr_str_inv hv
        refine GM.endswith (callWith_method1 (args_cons (Calls.Constant_str (args_nil (SC.endswith ?_)))))
        rw [ends_I]
        exact ret0 p1 B1.base B1.row (vr_bool _)
      | _ => exact p1.elim
    exact ⟨key, plain_true key fun _ => rfl⟩
theorem snds (hc : Top0 c) (hcall : CallOk c call N) (hk : sc.kind = .function) : ∀ {l : MEs} {es : List Expr}, CkEs sc sl l es → EsOk c call N sc sl name L a cd ρ l es
  | _, _, .nil => fun A fs s k pos Q E hA hF p => args_nil (p [] s.heap s.toks hF.base hF.row Keep.refl trivial)
  | _, _, .cons (a := x) (r := r) (e := e) (es := es) hx hr => by
    intro A fs s k pos Q E hA hF p
    refine args_cons ((snd hc hcall hk hx).1 A fs s k _ E hA hF ?_) (star_of hx)
    rw [evEs] at p
    cases e1 : evE call ρ x k with
    | ok y k1 =>
      rw [e1] at p
      intro v h1 tk1 b1 r1 K1 hv
      refine snds hc hcall hk hr A fs _ k1 pos _ E hA (hF.up ⟨b1, r1, K1⟩) ?_
      cases e2 : evEs call ρ r k1 with
      | ok ys k2 =>
        simp only [e2] at p
        intro vs h2 tk2 b2 r2 K2 hvs
        exact p (v :: vs) h2 tk2 b2 r2 (K1.trans K2) ⟨hv.up K2 r1 exRa, hvs⟩
      | exc k2 =>
        simp only [e2] at p
        exact fun e h' tk' x => p e h' tk' (ExcX.shift K1 x)
      | bad => simp only [e2] at p; exact p.elim
    | exc k1 => rw [e1] at p; exact p
    | bad => rw [e1] at p; exact p.elim
end
end
end Mine

end

-- Snd7
section
open PySem PySem.W PyProof.Rows PySem.Calls
namespace Mine
set_option maxRecDepth 100000

/-- an own exception, just made -/
structure MadeX (c : Cx) (h h' : Heap) (e : Addr) : Prop where
  keeps : ∀ b o, h.get? b = some o → h'.get? b = some o
  new : h.get? e = none
  there : ∃ ob vs tp, h'.get? e = some ob ∧ ob.cls = .ref c.C ∧ ob.data = .fields vs ∧ vs[0]? = some tp ∧ vs[1]? = some .none

noncomputable def exL (c : Cx) (L : Addr) (b : Addr) : Prop := b = c.ra ∨ b = L

noncomputable def ExcS (c : Cx) (fs : List Env) (L : Addr) (G : Heap) (k : Nat) (e : Addr) (h' : Heap) : Prop :=
  (∃ h m, c.g.StaysIn h ∧ RowAt c h k ∧ Keep (frs fs) (exL c L) G h ∧ Fr c.g L h m ∧ h.FunFrames c.g fs ∧ MadeX c h h' e) ∨ ExcX c fs (exL c L) G k e h'

theorem ExcS.shift {c : Cx} {fs : List Env} {L : Addr} {G G1 : Heap} {k : Nat} {e : Addr} {h' : Heap} (K : Keep (frs fs) (exL c L) G G1) (x : ExcS c fs L G1 k e h') : ExcS c fs L G k e h' := by
  rcases x with ⟨h, m, a1, a2, a3, a4, a5, a6⟩ | x
  · exact .inl ⟨h, m, a1, a2, K.trans a3, a4, a5, a6⟩
  · exact .inr (ExcX.shift K x)

noncomputable def PostS (c : Cx) (sl : List Str) (fs : List Env) (L : Addr) (s : Shared) (r : Res) (Q : Flow → Shared → Prop) (E : Value → Shared → Prop) : Prop := match r with
  | .next ρ k => ∀ h' tk', Fm c sl fs L ρ h' k → Keep (frs fs) (exL c L) s.heap h' → Q .next { s with heap := h', toks := tk' }
  | .ret y k => ∀ v h' tk', c.g.StaysIn h' → RowAt c h' k → Keep (frs fs) (exL c L) s.heap h' → VR c h' v y → Q (.ret v) { s with heap := h', toks := tk' }
  | .exc k => ∀ e h' tk', ExcS c fs L s.heap k e h' → E (.ref e) { s with heap := h', toks := tk' }
  | .bad => False

theorem PostS.shift {c : Cx} {sl : List Str} {fs : List Env} {L : Addr} {s : Shared} {h1 : Heap} {tk : Nat} {r : Res} {Q : Flow → Shared → Prop} {E : Value → Shared → Prop} (K : Keep (frs fs) (exL c L) s.heap h1) (p : PostS c sl fs L s r Q E) : PostS c sl fs L { s with heap := h1, toks := tk } r Q E := by
  cases r with
  | next ρ k => exact fun h' tk' a b => p h' tk' a (K.trans b)
  | ret y k => exact fun v h' tk' a b d e => p v h' tk' a b (K.trans d) e
  | exc k => exact fun e h' tk' x => p e h' tk' (x.shift K)
  | bad => exact p

theorem ra_exL {c : Cx} {L : Addr} : ∀ b, b = c.ra → exL c L b := fun _ e => .inl e

/-- the rule for `raise BadRow(e)` -/
noncomputable def RaiseOk (c : Cx) : Prop :=
  ∀ (name : Str) (sc : Scope) (L a : Addr) (cd : Value) (p1 p2 pos : Pos) (e : Expr) (A : Around) (fs : List Env) (n : Nat) (s : Shared) (m : Str → Option Value) (Q : Flow → Shared → Prop) (E : Value → Shared → Prop), sc.kind = .function →
    sc.names.lookup (Str.ofString "BadRow") = some .globalImplicit → (∀ rest env, starEach (e :: rest) env = (false, eval e env) :: starEach rest env) → Ar c A n fs → Fr c.g L s.heap m →
    wpAny (model c.prog c.w) A (eval e (envOf name sc L a cd)) (fun _ s1 => c.g.StaysIn s1.heap ∧ ∀ h' x tk', MadeX c s1.heap h' x → E (.ref x) { s1 with heap := h', toks := tk' }) E s →
    wpAny (model c.prog c.w) A (exec (.Raise (some (.Call (.Name (Str.ofString "BadRow") p1) [e] [] p2)) none pos) (envOf name sc L a cd)) Q E s

inductive CkNames (sc : Scope) (sl : List Str) : List Nat → List Expr → Prop
  | nil : CkNames sc sl [] []
  | cons {i x p is es} : sl[i]? = some x → sc.names.lookup x = some .local → CkNames sc sl is es → CkNames sc sl (i :: is) (.Name x p :: es)

mutual
inductive CkS (sc : Scope) (sl : List Str) : MS → Stmt → Prop
  | asg {i e x v p1 pos} : sl[i]? = some x → sc.names.lookup x = some .local → CkE sc sl e v → CkS sc sl (.asg i e) (.Assign [.Name x p1] v pos)
  | unp {is e es x p0 kk p1 pos} : CkNames sc sl is es → CkE sc sl e (.Name x p0) → CkS sc sl (.unp is e) (.Assign [.Tuple es kk p1] (.Name x p0) pos)
  | aug {i o e x v p1 pos} : sl[i]? = some x → sc.names.lookup x = some .local → CkE sc sl e v → CkS sc sl (.aug i o e) (.AugAssign (.Name x p1) o v pos)
  | ite {t a b t' a' b' pos} : CkE sc sl t t' → CkSs sc sl a a' → CkSs sc sl b b' → CkS sc sl (.ite t a b) (.If t' a' b' pos)
  | ret {e v pos} : CkE sc sl e v → CkS sc sl (.ret e) (.Return (some v) pos)
  | rse {e v x p1 p2 pos} : x = Str.ofString "BadRow" → sc.names.lookup x = some .globalImplicit → CkE sc sl e v → CkS sc sl (.rse e) (.Raise (some (.Call (.Name x p1) [v] [] p2)) none pos)
  | forR {i n b x y p1 p0 v p2 b' pos} : sl[i]? = some x → sc.names.lookup x = some .local → y = Str.ofString "range" → sc.names.lookup y = some .globalImplicit → CkE sc sl n v → CkSs sc sl b b' →
      CkS sc sl (.forR i n b) (.For (.Name x p1) (.Call (.Name y p0) [v] [] p2) b' [] pos)
  | forL {i l b x p1 v b' pos} : sl[i]? = some x → sc.names.lookup x = some .local → (∀ (env : Env) q, foldedSetIterable v env q = pure q) → CkE sc sl l v → CkSs sc sl b b' → CkS sc sl (.forL i l b) (.For (.Name x p1) v b' [] pos)
  | app {i e x p1 y p2 v p3 pos} : sl[i]? = some x → sc.names.lookup x = some .local → (x == ("__debug__" : Str)) = false → y = Str.ofString "append" → MethEq (.Name x p1) y p2 [v] p3 → CkE sc sl e v → CkS sc sl (.app i e) (.Expr (.Call (.Attribute (.Name x p1) y p2) [v] [] p3) pos)
inductive CkSs (sc : Scope) (sl : List Str) : MSs → List Stmt → Prop
  | nil : CkSs sc sl .nil []
  | cons {s r t ts} : CkS sc sl s t → CkSs sc sl r ts → CkSs sc sl (.cons s r) (t :: ts)
end

/-- the draws, backwards: `row.append(v)` -/
noncomputable def AppOk (c : Cx) (call : Nat → List V → Nat → Out) : Prop := ∀ v k r k', call 99 [.d (.int v)] k = .ok r k' → k = k' + 1 ∧ k ≤ c.R.length ∧ c.R.reverse.getD k' 0 = v ∧ c.g.get? c.ra = none ∧ c.R.length ≤ 4000

section
variable {c : Cx} {call : Nat → List V → Nat → Out} {N : Nat} {sc : Scope} {sl : List Str} {name : Str} {L a : Addr} {cd : Value}

noncomputable def SOk (c : Cx) (call : Nat → List V → Nat → Out) (N : Nat) (sc : Scope) (sl : List Str) (name : Str) (L a : Addr) (cd : Value) (m : MS) (t : Stmt) : Prop :=
  ∀ (ρ : List V) (A : Around) (fs : List Env) (s : Shared) (k : Nat) (Q : Flow → Shared → Prop) (E : Value → Shared → Prop), Ar c A N fs → L ∈ frs fs → Fm c sl fs L ρ s.heap k → PostS c sl fs L s (exS call m ρ k) Q E →
    wpAny (model c.prog c.w) A (exec t (envOf name sc L a cd)) Q E s
noncomputable def SsOk (c : Cx) (call : Nat → List V → Nat → Out) (N : Nat) (sc : Scope) (sl : List Str) (name : Str) (L a : Addr) (cd : Value) (m : MSs) (t : List Stmt) : Prop :=
  ∀ (ρ : List V) (A : Around) (fs : List Env) (s : Shared) (k : Nat) (Q : Flow → Shared → Prop) (E : Value → Shared → Prop), Ar c A N fs → L ∈ frs fs → Fm c sl fs L ρ s.heap k → PostS c sl fs L s (exSs call m ρ k) Q E →
    wpAny (model c.prog c.w) A (execs t (envOf name sc L a cd)) Q E s

theorem noSwap {e : ME} {v : Expr} (h : CkE sc sl e v) {t : Option Expr} {n : Nat} {env : Env} : swapsWith v t n env = pure false := by
  cases h <;> rfl

theorem ff_same {h h' : Heap} {m' : Str → Option Value} (hs : Heap.SameBut L h h') (hn : h'.Ns L m') : ∀ {fs : List Env}, h.FunFrames c.g fs → h'.FunFrames c.g fs
  | [], _ => trivial
  | env :: rest, ⟨hk, ⟨L', o, hf, hg, ho, hd⟩, hr⟩ => by
    refine ⟨hk, ?_, ff_same hs hn hr⟩
    by_cases q : L' = L
    · subst q
      obtain ⟨o', es, ep, e', d', _⟩ := hn
      exact ⟨_, o', hf, hg, e', fun vs z => by rw [d'] at z; cases z⟩
    · exact ⟨_, o, hf, hg, (hs.2 _ q).trans ho, hd⟩

/-- a heap that is the same but for the frame -/
theorem Fm.same {ρ ρ' : List V} {fs : List Env} {h h' : Heap} {k : Nat} {m' : Str → Option Value} (hF : Fm c sl fs L ρ h k) (hL : L ∈ frs fs) (hs : Heap.SameBut L h h') (hn : h'.Ns L m') (he : EnvOk c h' sl ρ' m') :
    Fm c sl fs L ρ' h' k ∧ Keep (frs fs) (exL c L) h h' := by
  obtain ⟨⟨m, F, e⟩, ff, row, nra, Lra⟩ := hF
  have K : Keep (frs fs) (exL c L) h h' := .of_keeps fun b o n e => (hs.2 b fun q => n (.inr q)).trans e
  have K' : Keep (frs fs) (· = L) h h' := .of_keeps fun b o n e => (hs.2 b n).trans e
  refine ⟨⟨⟨m', F.set hn hs, he⟩, ?_, RowAt.up K' (fun q => Lra q.symm) row nra, nra, Lra⟩, K⟩
  exact ff_same hs hn ff

theorem VR.same {h h' : Heap} {m : Str → Option Value} (hs : Heap.SameBut L h h') (row : ∃ k, RowAt c h k) (hn : h.Ns L m) {v : Value} {y : V} (x : VR c h v y) : VR c h' v y := by
  obtain ⟨k, row⟩ := row
  exact x.up (F := []) (ex := (· = L)) (.of_keeps fun b o n e => (hs.2 b n).trans e) row fun b e => .inr ⟨m, e ▸ hn⟩

theorem nodup_at {l : List Str} (h : l.Nodup) {i j : Nat} (hi : i < l.length) (hj : j < l.length) (e : l[i] = l[j]) : i = j := by
  rcases Nat.lt_trichotomy i j with q | q | q
  · exact absurd e (List.pairwise_iff_getElem.mp h i j hi hj q)
  · exact q
  · exact absurd e.symm (List.pairwise_iff_getElem.mp h j i hj hi q)

/-- a store into a name of the frame -/
theorem store_ok {x : Str} {i : Nat} {v : Value} {y : V} {ρ : List V} {A : Around} {fs : List Env} {s : Shared} {k : Nat} {Q : Unit → Shared → Prop} {E : Value → Shared → Prop} (hk : sc.kind = .function) (hnd : sl.Nodup) (hi : sl[i]? = some x) (hl : sc.names.lookup x = some .local)
    (hL : L ∈ frs fs) (hF : Fm c sl fs L ρ s.heap k) (hv : VR c s.heap v y)
    (h : ∀ h' tk', Fm c sl fs L (ρ.set i y) h' k → Keep (frs fs) (exL c L) s.heap h' → Q () { s with heap := h', toks := tk' }) : wpAny (model c.prog c.w) A (storeName (envOf name sc L a cd) x v) Q E s := by
  obtain ⟨m, F, he⟩ := hF.fr
  refine wpAny_storeName_local hl F.ns (fun h' hn hs => ?_) (by show (sc.kind == .class || (sc.kind == .module && L != mainGlobals)) = false; rw [hk]; rfl)
  have he' : EnvOk c h' sl (ρ.set i y) (fun z => if z = x then some v else m z) := fun j z hz w hw hne => ?_
  · obtain ⟨F', K⟩ := hF.same hL hs hn he'
    exact h h' _ F' K
  · by_cases q : j = i
    · subst q
      rw [hi] at hz
      cases hz
      have hlt : j < ρ.length := by
        by_cases hq : j < ρ.length
        · exact hq
        · rw [List.getElem?_eq_none (by rw [List.length_set]; omega)] at hw
          cases hw
      rw [List.getElem?_set_self hlt] at hw
      cases hw
      exact ⟨v, if_pos rfl, hv.same hs ⟨k, hF.row⟩ F.ns⟩
    · rw [List.getElem?_set_ne (fun e => q e.symm)] at hw
      obtain ⟨u, hu, hr⟩ := he j z hz w hw hne
      refine ⟨u, ?_, hr.same hs ⟨k, hF.row⟩ F.ns⟩
      have hzx : z ≠ x := by
        rintro rfl
        have h1 := (List.getElem?_eq_some_iff.mp hz)
        have h2 := (List.getElem?_eq_some_iff.mp hi)
        obtain ⟨b1, e1⟩ := h1
        obtain ⟨b2, e2⟩ := h2
        exact q (nodup_at hnd b1 b2 (e1.trans e2.symm))
      exact (if_neg hzx).trans hu

theorem keyL {fs : List Env} {h h' : Heap} {k : Nat} {ρ : List V} (hF : Fm c sl fs L ρ h k) (K : Keep (frs fs) (exL c L) h h') : ∀ (b : Addr) (o : Obj) (xs : Array Value) (n : Nat), b ≠ c.ra → h.get? b = some o → o.data = .seq xs n → ∃ sl, h'.get? b = some { o with slots := sl } := fun b o xs n nb e d => K.at (fun q => by
  rcases q with z | z
  · exact nb z
  · subst z
    obtain ⟨m, F, _⟩ := hF.fr
    obtain ⟨o2, es2, ep2, e2, d2, _⟩ := F.ns
    rw [e] at e2
    cases e2
    rw [d] at d2
    cases d2) e
theorem Lk.upL {fs : List Env} {h h' : Heap} {k : Nat} {ρ : List V} (hF : Fm c sl fs L ρ h k) (K : Keep (frs fs) (exL c L) h h') {b : Addr} (x : Lk c h b) : Lk c h' b := by
  obtain ⟨n, o, xs, q, e, d, z⟩ := x
  obtain ⟨sl', e'⟩ := keyL hF K b o xs q n e d
  exact ⟨n, _, xs, q, e', d, z⟩

/-- the names of a tuple of targets, one by one -/
theorem unpack_ok (hk : sc.kind = .function) (hnd : sl.Nodup) {A : Around} {fs : List Env} {k : Nat} {E : Value → Shared → Prop} (hL : L ∈ frs fs)
    {is : List Nat} {es : List Expr} (hck : CkNames sc sl is es) : ∀ {xs : List PyData} {vs : List Value} {as : List Addr} {ρ ρ' : List V} {s : Shared} {Q : Unit → Shared → Prop}, putAll is xs ρ = some ρ' → ReadsAll s.heap vs xs as → PyData.canLayAll0 xs = true → (∀ b ∈ as, Lk c s.heap b) →
      Fm c sl fs L ρ s.heap k → (∀ h' tk', Fm c sl fs L ρ' h' k → Keep (frs fs) (exL c L) s.heap h' → Q () { s with heap := h', toks := tk' }) →
      wpAny (model c.prog c.w) A (assignInOrder ((assignEach es (envOf name sc L a cd)).map (·.2)) vs) Q E s := by
  induction hck with
  | nil =>
    intro xs vs as ρ ρ' s Q hp hr hc ha hF h
    cases xs with
    | nil =>
      cases hr
      injection hp with hp
      subst hp
      exact assignInOrder_nil (h s.heap s.toks hF Keep.refl)
    | cons x xs => cases hp
  | @cons i x p is es h1 h2 h3 ih =>
    intro xs vs as ρ ρ' s Q hp hr hc ha hF h
    cases hr with
    | nil => cases hp
    | @cons v vs d ds as bs hv hrs =>
      rw [PyData.canLayAll0, Bool.and_eq_true] at hc
      show wpAny _ _ (assignInOrder (assign (.Name x p) (envOf name sc L a cd) :: ((assignEach es (envOf name sc L a cd)).map (·.2))) (v :: vs)) Q E s
      refine assignInOrder_cons (PyProof.Rows.assign_Name (store_ok hk hnd h1 h2 hL hF (y := .d d) ⟨as, hv, hc.1, fun b m => ha b (List.mem_append_left _ m)⟩ fun h' tk' F' K => ?_))
      exact ih hp (readsAll_up (keyL hF K) hF.row.cls hrs hc.2 fun b m => (ha b (List.mem_append_right _ m)).ne) hc.2 (fun b m => (ha b (List.mem_append_right _ m)).upL hF K) F' fun h2 tk2 F2 K2 => h h2 tk2 F2 (K.trans K2)

/-- a change that a frame does not see -/
theorem Fm.keepX {fs : List Env} {ρ : List V} {h h' : Heap} {k : Nat} {ex : Addr → Prop} (hF : Fm c sl fs L ρ h k) (K : Keep (frs fs) ex h h') (hb : c.g.StaysIn h') (h1 : ¬ ex L) (h2 : ¬ ex c.ra) (h3 : ∀ b ∈ frs fs, ¬ ex b)
    (h4 : ∀ b o xs n, ex b → h.get? b = some o → o.data = .seq xs n → False) : Fm c sl fs L ρ h' k := by
  obtain ⟨⟨m, F, e⟩, ff, row, nra, Lra⟩ := hF
  refine ⟨⟨m, ⟨ns_up K h1 F.ns, hb, F.above⟩, fun i z hz y hy hn => ?_⟩, ff_up K h3 ff, RowAt.up K h2 row nra, nra, Lra⟩
  obtain ⟨v, hv, hr⟩ := e i z hz y hy hn
  refine ⟨v, hv, ?_⟩
  cases y with
  | un => exact hr
  | row => exact hr
  | d y =>
    obtain ⟨as, r, hl, ha⟩ := hr
    have key : ∀ b o xs n, b ≠ c.ra → h.get? b = some o → o.data = .seq xs n → ∃ sl, h'.get? b = some { o with slots := sl } := fun b o xs n nb e d => K.at (fun q => h4 b o xs n q e d) e
    refine ⟨as, reads_up key row.cls r hl fun a m => (ha a m).ne, hl, fun a m => ⟨(ha a m).ne, ?_⟩⟩
    obtain ⟨o, xs, n, e, d, z⟩ := (ha a m).ob
    obtain ⟨sl, e'⟩ := key a o xs n (ha a m).ne e d
    exact ⟨_, xs, n, e', d, z⟩

theorem frs_lt {fs : List Env} {ρ : List V} {h : Heap} {k : Nat} (hF : Fm c sl fs L ρ h k) : ∀ b ∈ frs fs, b < h.objs.size := fun b m => by
  obtain ⟨_, o, e, _⟩ := hF.ff.mem m
  exact Heap.lt_size e
theorem L_lt {fs : List Env} {ρ : List V} {h : Heap} {k : Nat} (hF : Fm c sl fs L ρ h k) : L < h.objs.size := by
  obtain ⟨m, F, _⟩ := hF.fr
  exact F.ns.lt
theorem ra_lt {h : Heap} {k : Nat} (r : RowAt c h k) : c.ra < h.objs.size := by
  obtain ⟨_, o, _, e, _⟩ := r
  exact Heap.lt_size e
theorem g_lt {fs : List Env} {ρ : List V} {h : Heap} {k : Nat} (hF : Fm c sl fs L ρ h k) : c.g.objs.size ≤ h.objs.size := by
  obtain ⟨m, F, _⟩ := hF.fr
  exact Nat.le_trans F.above (Nat.le_of_lt F.ns.lt)

/-- an iterator that the frame holds -/
structure ItAt (c : Cx) (fs : List Env) (L : Addr) (h : Heap) (it : Addr) : Prop where
  nf : it ∉ frs fs
  nL : it ≠ L
  nra : it ≠ c.ra
  ng : c.g.get? it = none
  ob : ∃ o vs, h.get? it = some o ∧ o.data = .fields vs

theorem ItAt.new {fs : List Env} {ρ : List V} {h : Heap} {k : Nat} (hF : Fm c sl fs L ρ h k) {o : Obj} {vs : Array Value} (hd : o.data = .fields vs) : ItAt c fs L (h.push o) h.objs.size :=
  ⟨fun m => Nat.lt_irrefl _ (frs_lt hF _ m), fun e => Nat.lt_irrefl _ (e ▸ L_lt hF), fun e => Nat.lt_irrefl _ (e ▸ ra_lt hF.row), Heap.get?_none_of_le (g_lt hF), _, vs, Heap.get?_push_size _ (Obj.isFreed_of_fields hd), hd⟩

/-- behind a step of the iterator's -/
theorem ItAt.step {fs : List Env} {ρ : List V} {h h' : Heap} {k : Nat} {it : Addr} (x : ItAt c fs L h it) (hF : Fm c sl fs L ρ h k) (K : ∀ b o, b ≠ it → h.get? b = some o → h'.get? b = some o) : Fm c sl fs L ρ h' k := by
  refine hF.keepX (ex := (· = it)) (.of_keeps K) (fun b o e => K b o (fun q => by have := x.ng; rw [← q, e] at this; cases this) (hF.base b o e)) (fun q => x.nL q.symm) (fun q => x.nra q.symm) (fun b m q => x.nf (q ▸ m)) fun b o xs n q e d => ?_
  obtain ⟨o', vs, e', d'⟩ := x.ob
  rw [q, e'] at e
  cases e
  rw [d'] at d
  cases d
end
end Mine

end

-- Snd8
section
open PySem PySem.W PyProof.Rows PySem.Calls
namespace Mine
set_option maxRecDepth 100000

section
variable {c : Cx} {call : Nat → List V → Nat → Out} {N : Nat} {sc : Scope} {sl : List Str} {name : Str} {L a : Addr} {cd : Value}

theorem keepL_of {fs : List Env} {s : Shared} {h1 : Heap} {k1 : Nat} (B : Bh c fs s h1 k1) : Keep (frs fs) (exL c L) s.heap h1 := B.keep.mono ra_exL

theorem exc_up {fs : List Env} {G : Heap} {k : Nat} {e : Addr} {h' : Heap} (x : Exc c fs G k e h') : ExcS c fs L G k e h' := .inr (ExcX.mono x ra_exL)

theorem upto_cons (n i : Nat) : upto (n + 1) i = .int (Int.ofNat i) :: upto n (i + 1) := rfl

theorem Keep.via {F : List Addr} {ex : Addr → Prop} {G h h1 : Heap} {it : Addr} (K : Keep F ex G h) (hG : G.get? it = none) (hs : ∀ b o, b ≠ it → h.get? b = some o → h1.get? b = some o) : Keep F ex G h1 := fun b o n e => by
  have nb : b ≠ it := fun q => by rw [q, hG] at e; cases e
  refine ⟨fun m => ?_, fun m => hs _ _ nb ((K b o n e).2 m)⟩
  obtain ⟨sl, e'⟩ := (K b o n e).1 m
  exact ⟨sl, hs _ _ nb e'⟩

/-- a loop over a range -/
theorem loopR_ok (hk : sc.kind = .function) (hnd : sl.Nodup) {x : Str} {ix : Nat} {p1 : Pos} {b : MSs} {b' : List Stmt} (hi : sl[ix]? = some x) (hl : sc.names.lookup x = some .local) (hb : SsOk c call N sc sl name L a cd b b')
    {A : Around} {fs : List Env} {Q : Flow → Shared → Prop} {E : Value → Shared → Prop} (hA : Ar c A N fs) (hL : L ∈ frs fs) {ρ : List V} {s : Shared} {h : Heap} {tk k m : Nat} {it : Addr} (hG : s.heap.get? it = none) (hF : Fm c sl fs L ρ h k) (hK : Keep (frs fs) (exL c L) s.heap h) (hI : ItAt c fs L h it) (hit : IsRangeIter h it 0 m 1)
    (p : PostS c sl fs L s (turns (exSs call b) ix (upto m 0) ρ k) Q E) (R : Result → Shared → Prop) (hR : ∀ f s', Q f s' → R (.ok f) s') :
    codeAny (model c.prog c.w) A (.forLoop (.Name x p1) (.ref it) b' [] (envOf name sc L a cd)) R { s with heap := h, toks := tk } := by
  refine codeAny_forLoop (fun n s' => ∃ (h' : Heap) (tk' : Nat) (ρ' : List V) (k' i : Nat), s' = { s with heap := h', toks := tk' } ∧ Fm c sl fs L ρ' h' k' ∧ Keep (frs fs) (exL c L) s.heap h' ∧ ItAt c fs L h' it ∧ IsRangeIter h' it i (m - i : Nat) 1 ∧ i ≤ m ∧ n = m - i ∧
      PostS c sl fs L s (turns (exSs call b) ix (upto (m - i) i) ρ' k') Q E) ?_ m ⟨h, tk, ρ, k, 0, rfl, hF, hK, hI, hit, Nat.zero_le _, rfl, p⟩
  rintro n s' ⟨h', tk', ρ', k', i, rfl, hF', K, hI', hit', him, rfl, p'⟩
  by_cases hq : i < m
  · refine wpAny_pyNext_range_item hit' (by omega) fun h1 hit1 hs1 => ?_
    have hs1' : ∀ q o, q ≠ it → h'.get? q = some o → h1.get? q = some o := fun q o n e => (hs1.2 q n).trans e
    have hF1 : Fm c sl fs L ρ' h1 k' := hI'.step hF' hs1'
    refine PyProof.Rows.assign_Name (store_ok (y := .d (.int (Int.ofNat i))) hk hnd hi hl hL hF1 (vr_int _ _) fun h2 tk2 hF2 K2 => ?_)
    have e1 : upto (m - i) i = .int (Int.ofNat i) :: upto (m - (i + 1)) (i + 1) := by
      rw [show m - i = (m - (i + 1)) + 1 by omega]; rfl
    rw [e1, turns] at p'
    have nit : ¬ exL c L it := fun q => q.elim hI'.nra hI'.nL
    have it2 : IsRangeIter h2 it ((i + 1 : Nat) : Int) ((m - (i + 1) : Nat) : Int) 1 := by
      have z := (K2 it _ nit hit1).2 hI'.nf
      have e2 : ((i : Int) + 1) = ((i + 1 : Nat) : Int) := by omega
      have e3 : (((m - i : Nat) : Int) - 1) = ((m - (i + 1) : Nat) : Int) := by omega
      rw [e2, e3] at z
      exact z
    have KK : Keep (frs fs) (exL c L) s.heap h2 := (K.via hG hs1').trans K2
    refine hb (ρ'.set ix (.d (.int (Int.ofNat i)))) A fs _ k' _ _ hA hL hF2 ?_
    cases er : exSs call b (ρ'.set ix (.d (.int (Int.ofNat i)))) k' with
    | next ρ3 k3 =>
      rw [er] at p'
      intro h3 tk3 hF3 K3
      have z3 := (K3 it _ nit it2).2 hI'.nf
      exact ⟨m - (i + 1), by omega, h3, tk3, ρ3, k3, i + 1, rfl, hF3, KK.trans K3, ⟨hI'.nf, hI'.nL, hI'.nra, hI'.ng, _, _, z3, rfl⟩, z3, by omega, rfl, p'⟩
    | ret v k3 =>
      rw [er] at p'
      exact fun u h3 tk3 b3 r3 K3 hv => hR _ _ (p' u h3 tk3 b3 r3 (KK.trans K3) hv)
    | exc k3 => rw [er] at p'; exact p'.elim
    | bad => rw [er] at p'; exact p'.elim
  · have hm : m - i = 0 := by omega
    rw [hm] at p' hit'
    refine wpAny_pyNext_range_end hA.handled hit' (by omega) fun h1 he1 => wpAny_execs_nil (hR _ _ ?_)
    exact p' h1 tk' (hI'.step hF' fun q o n e => he1 q o n e) (K.via hG fun q o n e => he1 q o n e)

/-- a loop over a list -/
theorem loopL_ok (hk : sc.kind = .function) (hnd : sl.Nodup) {x : Str} {ix : Nat} {p1 : Pos} {b : MSs} {b' : List Stmt} (hi : sl[ix]? = some x) (hl : sc.names.lookup x = some .local) (hb : SsOk c call N sc sl name L a cd b b')
    {A : Around} {fs : List Env} {Q : Flow → Shared → Prop} {E : Value → Shared → Prop} (hA : Ar c A N fs) (hL : L ∈ frs fs) {ρ : List V} {s : Shared} {h : Heap} {tk k : Nat} {it l : Addr} {xs : List PyData} (hG : s.heap.get? it = none) (hF : Fm c sl fs L ρ h k) (hK : Keep (frs fs) (exL c L) s.heap h) (hI : ItAt c fs L h it)
    (hit : h.IsListIter it l 0) (hv : VR c h (.ref l) (.d (.list xs)))
    (p : PostS c sl fs L s (turns (exSs call b) ix xs ρ k) Q E) (R : Result → Shared → Prop) (hR : ∀ f s', Q f s' → R (.ok f) s') :
    codeAny (model c.prog c.w) A (.forLoop (.Name x p1) (.ref it) b' [] (envOf name sc L a cd)) R { s with heap := h, toks := tk } := by
  refine codeAny_forLoop (fun n s' => ∃ (h' : Heap) (tk' : Nat) (ρ' : List V) (k' i : Nat), s' = { s with heap := h', toks := tk' } ∧ Fm c sl fs L ρ' h' k' ∧ Keep (frs fs) (exL c L) s.heap h' ∧ ItAt c fs L h' it ∧ h'.IsListIter it l i ∧ VR c h' (.ref l) (.d (.list xs)) ∧ i ≤ xs.length ∧ n = xs.length - i ∧
      PostS c sl fs L s (turns (exSs call b) ix (xs.drop i) ρ' k') Q E) ?_ xs.length ⟨h, tk, ρ, k, 0, rfl, hF, hK, hI, hit, hv, Nat.zero_le _, rfl, p⟩
  rintro n s' ⟨h', tk', ρ', k', i, rfl, hF', K, hI', hit', hv', him, rfl, p'⟩
  obtain ⟨l', vs, as, el, hlk, hlist, hr, hc, ha⟩ := vr_lst_inv hv'
  cases el
  have hlen := readsAll_len hr
  have nit : ¬ exL c L it := fun q => q.elim hI'.nra hI'.nL
  have vrs : ∀ {h1 : Heap}, (∀ q o, q ≠ it → h'.get? q = some o → h1.get? q = some o) → ∀ {v : Value} {y : PyData}, VR c h' v (.d y) → VR c h1 v (.d y) := fun {h1} hs {v y} hv => by
    obtain ⟨as, r, hl, ha⟩ := hv
    have key : ∀ b o xs n, b ≠ c.ra → h'.get? b = some o → o.data = .seq xs n → ∃ sl, h1.get? b = some { o with slots := sl } := fun b o xs n nb e d => ⟨o.slots, hs b o (fun q => by
      obtain ⟨o', vs, e', d'⟩ := hI'.ob
      rw [q, e'] at e
      cases e
      rw [d'] at d
      cases d) e⟩
    refine ⟨as, reads_up key hF'.row.cls r hl fun a m => (ha a m).ne, hl, fun a m => ⟨(ha a m).ne, ?_⟩⟩
    obtain ⟨o, xs, n, e, d, z⟩ := (ha a m).ob
    obtain ⟨sl, e'⟩ := key a o xs n (ha a m).ne e d
    exact ⟨_, xs, n, e', d, z⟩
  have vrL : ∀ {h1 h2 : Heap} {ρ1 : List V} {k1 : Nat}, Fm c sl fs L ρ1 h1 k1 → Keep (frs fs) (exL c L) h1 h2 → ∀ {v : Value} {y : PyData}, VR c h1 v (.d y) → VR c h2 v (.d y) := fun {h1 h2 ρ1 k1} hF1 K1 {v y} hv => by
    obtain ⟨as, r, hl, ha⟩ := hv
    exact ⟨as, reads_up (keyL hF1 K1) hF1.row.cls r hl fun a m => (ha a m).ne, hl, fun a m => (ha a m).upL hF1 K1⟩
  cases hx : xs[i]? with
  | some d =>
    have hlt : i < xs.length := (List.getElem?_eq_some_iff.mp hx).1
    obtain ⟨v, bs, ev, rv, mv⟩ := readsAll_at hr _ _ hx
    refine wpAny_pyNext_list_item hit' hlist (getElem_toArray ev) fun h1 hit1 hs1 => ?_
    have hs1' : ∀ q o, q ≠ it → h'.get? q = some o → h1.get? q = some o := fun q o n e => (hs1.2 q n).trans e
    have hF1 : Fm c sl fs L ρ' h1 k' := hI'.step hF' hs1'
    have hvd : VR c h' v (.d d) := ⟨bs, rv, canLayAll_at hc _ _ hx, fun b m => ha b (mv b m)⟩
    refine PyProof.Rows.assign_Name (store_ok (y := .d d) hk hnd hi hl hL hF1 (vrs hs1' hvd) fun h2 tk2 hF2 K2 => ?_)
    have e1 : xs.drop i = d :: xs.drop (i + 1) := by
      have := List.drop_eq_getElem_cons hlt
      rw [this]
      congr 1
      have := (List.getElem?_eq_some_iff.mp hx).2
      exact this
    rw [e1, turns] at p'
    have up : ∀ {h3 : Heap}, Keep (frs fs) (exL c L) h1 h3 → h3.IsListIter it l (i + 1) := fun K3 => by
      obtain ⟨o, e, cc, dd⟩ := hit1
      exact ⟨o, (K3 it o nit e).2 hI'.nf, cc, dd⟩
    have KK : Keep (frs fs) (exL c L) s.heap h2 := (K.via hG hs1').trans K2
    refine hb (ρ'.set ix (.d d)) A fs _ k' _ _ hA hL hF2 ?_
    cases er : exSs call b (ρ'.set ix (.d d)) k' with
    | next ρ3 k3 =>
      rw [er] at p'
      intro h3 tk3 hF3 K3
      have z3 := up (K2.trans K3)
      have z3' := z3
      obtain ⟨o, e, cc, dd⟩ := z3'
      exact ⟨xs.length - (i + 1), by omega, h3, tk3, ρ3, k3, i + 1, rfl, hF3, KK.trans K3, ⟨hI'.nf, hI'.nL, hI'.nra, hI'.ng, o, _, e, dd⟩, z3, vrL hF2 K3 (vrL hF1 K2 (vrs hs1' hv')), by omega, rfl, p'⟩
    | ret v k3 =>
      rw [er] at p'
      exact fun u h3 tk3 b3 r3 K3 hv => hR _ _ (p' u h3 tk3 b3 r3 (KK.trans K3) hv)
    | exc k3 => rw [er] at p'; exact p'.elim
    | bad => rw [er] at p'; exact p'.elim
  | none =>
    have hge : xs.length ≤ i := by simpa using hx
    have e1 : xs.drop i = [] := List.drop_eq_nil_of_le hge
    rw [e1] at p'
    refine wpAny_pyNext_list_end hA.handled hit' hlist (by simp; omega) fun h1 he1 => wpAny_execs_nil (hR _ _ ?_)
    exact p' h1 tk' (hI'.step hF' fun q o n e => he1 q o n e) (K.via hG fun q o n e => he1 q o n e)
end
end Mine

end

-- Snd9
section
open PySem PySem.W PyProof.Rows PySem.Calls
namespace Mine
set_option maxRecDepth 100000

section
variable {c : Cx} {call : Nat → List V → Nat → Out} {N : Nat} {sc : Scope} {sl : List Str} {name : Str} {L a : Addr} {cd : Value}

/-- an expression's exceptions are a statement's -/
theorem PostE.toS {fs : List Env} {s : Shared} {r : Out} {Q Q' : Value → Shared → Prop} {E : Value → Shared → Prop} {R : Out → Res} {Qf : Flow → Shared → Prop} (he : ∀ k, R (.exc k) = .exc k) (hb : R .bad = .bad) (p : PostS c sl fs L s (R r) Qf E)
    (k : ∀ y k1 v h1 tk1, r = .ok y k1 → Bh c fs s h1 k1 → VR c h1 v y → PostS c sl fs L { s with heap := h1, toks := tk1 } (R (.ok y k1)) Qf E → Q v { s with heap := h1, toks := tk1 }) : PostE c fs s r Q E := by
  cases r with
  | ok y k1 => exact fun v h1 tk1 a b d e => k y k1 v h1 tk1 rfl ⟨a, b, d⟩ e (PostS.shift (d.mono ra_exL) p)
  | exc k1 =>
    rw [he] at p
    exact fun e h' tk' x => p e h' tk' (exc_up x)
  | bad => rw [hb] at p; exact p.elim

theorem putAll_len : ∀ {is : List Nat} {xs : List PyData} {ρ ρ' : List V}, putAll is xs ρ = some ρ' → is.length = xs.length
  | [], [], _, _, _ => rfl
  | i :: is, x :: xs, ρ, ρ', h => by
    rw [putAll] at h
    rw [List.length_cons, List.length_cons, putAll_len h]
  | [], _ :: _, _, _, h => by cases h
  | _ :: _, [], _, _, h => by cases h
theorem ckNames_len {is : List Nat} {es : List Expr} (h : CkNames sc sl is es) : is.length = es.length := by
  induction h with
  | nil => rfl
  | cons _ _ _ ih => rw [List.length_cons, List.length_cons, ih]
theorem assignEach_name {x : Str} {p : Pos} {es : List Expr} {env : Env} : assignEach (.Name x p :: es) env = (false, assign (.Name x p) env) :: assignEach es env := rfl
theorem assignEach_len {is : List Nat} {es : List Expr} (h : CkNames sc sl is es) {env : Env} : (assignEach es env).length = es.length := by
  induction h with
  | nil => rfl
  | cons _ _ _ ih => rw [assignEach_name, List.length_cons, List.length_cons, ih]
theorem assignEach_star {is : List Nat} {es : List Expr} (h : CkNames sc sl is es) {env : Env} : (assignEach es env).findIdx? (·.1) = none := by
  induction h with
  | nil => rfl
  | cons _ _ _ ih =>
    rw [assignEach_name, List.findIdx?_cons, ih]
    rfl

theorem app_ok {ρ : List V} {fs : List Env} {A : Around} {s : Shared} {k : Nat} {h1 : Heap} {tk1 : Nat} {k2 : Nat} {z : Int} {t : Tok} {Q : Flow → Shared → Prop} {E : Value → Shared → Prop} (hF : Fm c sl fs L ρ s.heap k) (B1 : Bh c fs s h1 (k2 + 1)) (q2 : k2 + 1 ≤ c.R.length) (q3 : c.R.reverse.getD k2 0 = z)
    (q4 : c.g.get? c.ra = none) (q5 : c.R.length ≤ 4000) (p : PostS c sl fs L { s with heap := h1, toks := tk1 } (.next ρ k2) Q E) :
    wpAny (model c.prog c.w) A (PySem.call (.builtin "list.append") ([.ref c.ra] ++ [.int z t])) (fun v s' => match v with | .ref _ => False | _ => Q .next s') E { s with heap := h1, toks := tk1 } := by
  obtain ⟨vs, ⟨oc, od, odd, osl⟩, n, e, rfl, rfl, rfl, rfl, hi⟩ := id B1.row
  have hI : PySem.IsL h1 c.ra vs.toArray n := e
  have hlen : vs.length ≤ 4000 := by
    rw [IntsAre.length hi, List.length_take]
    omega
  have hoth : ∀ b o, b ≠ c.ra → h1.get? b = some o → (h1.update c.ra (Obj.mapSeq fun xs => xs.push (.int z t))).get? b = some o := fun b o n e => (Heap.get?_update_ne _ _ _ _ n).trans e
  have hup := hI.update fun xs => xs.push (.int z t)
  refine call_meets PySem.F.slot_list_append ⟨_, hI, rfl⟩ PySem.F.entry_list_append (PySem.F.args_list_append_2 _ _) (AutoListH.list_append_list_int_0 c.ra vs.toArray n z t (by rw [List.size_toArray, sizeLine_eq]; omega)) ⟨hI, ?_⟩
  have htake : c.R.take (c.R.length - k2) = c.R.take (c.R.length - (k2 + 1)) ++ [z] := by
    rw [show c.R.length - k2 = (c.R.length - (k2 + 1)) + 1 by omega, List.take_succ]
    congr 1
    rw [List.getD_eq_getElem?_getD, List.getElem?_reverse (by omega)] at q3
    rw [show c.R.length - 1 - k2 = c.R.length - (k2 + 1) by omega] at q3
    rw [List.getElem?_eq_getElem (by omega)] at q3 ⊢
    simp only [Option.getD_some] at q3
    rw [q3]
    rfl
  have hrow : RowAt c (h1.update c.ra (Obj.mapSeq fun xs => xs.push (.int z t))) k2 := by
    refine ⟨vs ++ [.int z t], _, _, hup.trans (by rw [List.push_toArray]), rfl, rfl, rfl, rfl, ?_⟩
    rw [htake]
    exact hi.append (.cons z t .nil)
  exact p _ _ ((hF.up B1).up (s := { s with heap := h1 }) ⟨fun b o q => hoth b o (fun z => by rw [z, q4] at q; cases q) (B1.base b o q), hrow, .of_keeps hoth⟩) (.of_keeps fun b o n e => hoth b o (fun q => n (.inl q)) e)

set_option maxHeartbeats 4000000
mutual
theorem sndS (hc : Top0 c) (hcall : CallOk c call N) (hR : RaiseOk c) (hap : AppOk c call) (hk : sc.kind = .function) (hnd : sl.Nodup) : ∀ {m : MS} {t : Stmt}, CkS sc sl m t → SOk c call N sc sl name L a cd m t
  | _, _, .asg (i := i) (e := e) (x := x) (v := v) (p1 := p1) (pos := pos) hi hl hv => by
    intro ρ A fs s k Q E hA hL hF p
    rw [exS] at p
    refine wpAny_Assign_Name ((snd hc hcall hk hv).1 A fs s k _ E hA hF (PostE.toS (Q := _) (Q' := fun _ _ => True) (R := fun r => match r with
      | .ok v k => .next (ρ.set i v) k
      | .exc k => .exc k
      | .bad => .bad) (fun _ => rfl) rfl p fun y k1 u h1 tk1 _ B1 hu p1 => ?_)) (noSwap hv)
    exact store_ok hk hnd hi hl hL (hF.up B1) hu fun h2 tk2 F2 K2 => p1 h2 tk2 F2 K2
  | _, _, .unp (is := is) (e := e) (es := es) (x := x) (p0 := p0) (kk := kk) (p1 := p1) (pos := pos) hn hv => by
    intro ρ A fs s k Q E hA hL hF p
    rw [exS] at p
    refine Assign_Tuple ((snd hc hcall hk hv).1 A fs s k _ E hA hF (PostE.toS (Q := _) (Q' := fun _ _ => True) (R := fun r => match r with
      | .ok (.d (.tuple xs)) k => (match putAll is xs ρ with
        | some ρ => .next ρ k
        | none => .bad)
      | .exc k => .exc k
      | _ => .bad) (fun _ => rfl) rfl p fun y k1 u h1 tk1 _ B1 hu p1 => ?_))
    cases y with
    | d y =>
      cases y with
      | tuple xs =>
        obtain ⟨q, vs, as, rfl, ht, hr, hcl, ha⟩ := vr_tup_inv hu
        cases e1 : putAll is xs ρ with
        | none => simp only [e1] at p1; exact p1.elim
        | some ρ1 =>
          simp only [e1] at p1
          have hF1 := hF.up B1
          have hlen : es.length = vs.length := by rw [readsAll_len hr, ← putAll_len e1, ckNames_len hn]
          refine assign_Tuple_tuple hA.handled ht (by rw [assignEach_len hn, List.size_toArray]; exact hlen) (assignEach_star hn) fun h2 he2 => ?_
          have hs : ∀ b o, b ≠ h1.objs.size → h1.get? b = some o → h2.get? b = some o := fun b o n e => he2 b o n e
          have K12 : Keep (frs fs) (exL c L) h1 h2 := .of_keeps fun b o n e => hs b o (Nat.ne_of_lt (Heap.lt_size e)) e
          have hF2 : Fm c sl fs L ρ h2 k1 := hF1.up (s := { s with heap := h1 }) ⟨fun b o e => hs b o (Nat.ne_of_lt (Heap.lt_size (B1.base b o e))) (B1.base b o e), RowAt.up (F := []) (ex := fun _ => False) (.of_keeps fun b o n e => hs b o (Nat.ne_of_lt (Heap.lt_size e)) e) id B1.row, (.of_keeps fun b o n e => hs b o (Nat.ne_of_lt (Heap.lt_size e)) e)⟩
          exact unpack_ok hk hnd hL hn e1 (readsAll_up (keyL hF1 K12) hF1.row.cls hr hcl fun b m => (ha b m).ne) hcl (fun b m => (ha b m).upL hF1 K12) hF2 fun h3 tk3 F3 K3 => p1 h3 tk3 F3 (K12.trans K3)
      | _ => exact p1.elim
    | _ => exact p1.elim
  | _, _, .aug (i := i) (o := o) (e := e) (x := x) (v := v) (p1 := p1) (pos := pos) hi hl hv => by
    intro ρ A fs s k Q E hA hL hF p
    rw [exS] at p
    obtain ⟨m, F, he⟩ := hF.fr
    cases ei : ρ[i]? with
    | none => simp only [ei] at p; exact p.elim
    | some y =>
      simp only [ei] at p
      cases y with
      | d y =>
        obtain ⟨u, hu, hur⟩ := he i x hi _ ei (by intro q; cases q)
        refine wpAny_AugAssign_Name (wpAny_loadName_local hk hl F.ns hu ?_)
        refine (snd hc hcall hk hv).1 A fs s k _ E hA hF (PostE.toS (Q := _) (Q' := fun _ _ => True) (R := fun r => match r with
          | .ok (.d z) k => (match augD o y z with
            | some q => .next (ρ.set i (.d q)) k
            | none => .bad)
          | .exc k => .exc k
          | _ => .bad) (fun _ => rfl) rfl p fun z k1 w h1 tk1 _ B1 hw p1 => ?_)
        cases z with
        | d z =>
          cases e1 : augD o y z with
          | none => simp only [e1] at p1; exact p1.elim
          | some q =>
            simp only [e1] at p1
            refine augD_ok (fs := fs) (k := k1) B1.base B1.row (hur.up B1.keep hF.row exRa) hw ?_
            rw [e1]
            intro r h2 tk2 b2 r2 K2 hr2
            exact store_ok hk hnd hi hl hL ((hF.up B1).up ⟨b2, r2, K2⟩) hr2 fun h3 tk3 F3 K3 => p1 h3 tk3 F3 ((K2.mono ra_exL).trans K3)
        | _ => exact p1.elim
      | _ => exact p.elim
  | _, _, .ite (t := t) (a := x) (b := y) (t' := t') (a' := a') (b' := b') (pos := pos) ht hx hy => by
    intro ρ A fs s k Q E hA hL hF p
    rw [exS] at p
    refine wpAny_If ((snd hc hcall hk ht).2 A fs s k _ E hA hF ?_)
    revert p
    cases evE call ρ t k with
    | ok v k1 =>
      cases v with
      | d d =>
        cases d with
        | bool b =>
          intro p h1 tk1 b1 r1 K1
          have p1 := PostS.shift (tk := tk1) (K1.mono ra_exL) p
          cases b with
          | true => exact sndSs hc hcall hR hap hk hnd hx ρ A fs _ k1 Q E hA hL (hF.up ⟨b1, r1, K1⟩) p1
          | false => exact sndSs hc hcall hR hap hk hnd hy ρ A fs _ k1 Q E hA hL (hF.up ⟨b1, r1, K1⟩) p1
        | _ => exact fun p => p.elim
      | _ => exact fun p => p.elim
    | exc k1 => exact fun p e h' tk' x => p e h' tk' (exc_up x)
    | bad => exact fun p => p.elim
  | _, _, .ret (e := e) (v := v) (pos := pos) hv => by
    intro ρ A fs s k Q E hA hL hF p
    rw [exS] at p
    refine wpAny_Return_some ((snd hc hcall hk hv).1 A fs s k _ E hA hF (PostE.toS (Q := _) (Q' := fun _ _ => True) (R := fun r => match r with
      | .ok v k => .ret v k
      | .exc k => .exc k
      | .bad => .bad) (fun _ => rfl) rfl p fun y k1 u h1 tk1 _ B1 hu p1 => ?_))
    exact p1 u h1 tk1 B1.base B1.row Keep.refl hu
  | _, _, .rse (e := e) (v := v) (x := x) (p1 := p1) (p2 := p2) (pos := pos) hx hl hv => by
    intro ρ A fs s k Q E hA hL hF p
    rw [exS] at p
    subst hx
    obtain ⟨m, F, he⟩ := hF.fr
    refine hR name sc L a cd p1 p2 pos v A fs N s m Q E hk hl (fun rest env => star_of hv) hA F ((snd hc hcall hk hv).1 A fs s k _ E hA hF (PostE.toS (Q := _) (Q' := fun _ _ => True) (R := fun r => match r with
      | .ok (.d _) k => .exc k
      | .exc k => .exc k
      | _ => .bad) (fun _ => rfl) rfl p fun y k1 u h1 tk1 _ B1 hu p1 => ?_))
    cases y with
    | d y =>
      refine ⟨B1.base, fun h2 x tk2 hm => p1 x h2 tk2 (.inl ?_)⟩
      obtain ⟨m1, F1, _⟩ := (hF.up B1).fr
      exact ⟨h1, m1, B1.base, B1.row, Keep.refl, F1, (hF.up B1).ff, hm⟩
    | _ => exact p1.elim
  | _, _, .forR (i := i) (n := n) (b := b) (x := x) (y := y) (p1 := p1) (p0 := p0) (v := v) (p2 := p2) (b' := b') (pos := pos) hi hl hy hly hv hb => by
    intro ρ A fs s k Q E hA hL hF p
    rw [exS] at p
    subst hy
    refine wpAny_For (Call_ (ld_bi hc hk hF.base (v := .type "range") (by simp [biN]) hly ?_))
    refine PyProof.Rows.callWith_type1 (args_cons ((snd hc hcall hk hv).1 A fs s k _ E hA hF (PostE.toS (Q := _) (Q' := fun _ _ => True) (R := fun r => match r with
      | .ok (.d (.int m)) k => (match decide (0 ≤ m), decide (m ≤ 1000) with
        | true, true => turns (exSs call b) i (upto m.toNat 0) ρ k
        | _, _ => .bad)
      | .exc k => .exc k
      | _ => .bad) (fun _ => rfl) rfl p fun z k1 w h1 tk1 _ B1 hw p1 => args_nil ?_)) (star_of hv)) (star_of hv)
    cases z with
    | d z =>
      cases z with
      | int m =>
        obtain ⟨t, rfl⟩ := vr_int_inv hw
        cases e0 : decide (0 ≤ m) with
        | false => simp only [e0] at p1; exact p1.elim
        | true =>
          cases e1 : decide (m ≤ 1000) with
          | false => simp only [e0, e1] at p1; exact p1.elim
          | true =>
            simp only [e0, e1] at p1
            have h0 := of_decide_eq_true e0
            have h9 := of_decide_eq_true e1
            refine call_range_1 ?_
            have hF1 := hF.up B1
            have hr := IsRange.new h1 0 m 1 tk1 t (tk1 + 1)
            refine wpAny_pyIter_range hr (small_one (by omega) (by omega) (by omega) (by omega)) ?_
            have esz : Builtin.Range.rangeSize 0 m 1 = (m.toNat : Int) := by rw [rangeSize_one]; split <;> omega
            have hF2 : Fm c sl fs L ρ (h1.push { cls := .type "range", data := .fields #[.int 0 tk1, .int m t, .int 1 (tk1 + 1)] }) k1 := hF1.up (s := { s with heap := h1 }) ⟨fun b o e => Heap.get?_push_of_some _ (B1.base b o e), RowAt.up (F := []) (ex := fun _ => False) (Keep.push _) id B1.row, Keep.push _⟩
            have hF3 : Fm c sl fs L ρ ((h1.push { cls := .type "range", data := .fields #[.int 0 tk1, .int m t, .int 1 (tk1 + 1)] }).push { cls := .type "range_iterator", data := .fields #[rawInt 0, rawInt (Builtin.Range.rangeSize 0 m 1), rawInt 1] }) k1 := hF2.up (s := { s with heap := h1.push { cls := .type "range", data := .fields #[.int 0 tk1, .int m t, .int 1 (tk1 + 1)] } }) ⟨fun b o e => Heap.get?_push_of_some _ (hF2.base b o e), RowAt.up (F := []) (ex := fun _ => False) (Keep.push _) id hF2.row, Keep.push _⟩
            refine loopR_ok (s := { s with heap := h1, toks := tk1 }) (m := m.toNat) hk hnd hi hl (sndSs hc hcall hR hap hk hnd hb) hA hL (Heap.get?_none_of_le (by show h1.objs.size ≤ _; rw [Heap.size_push]; exact Nat.le_succ _)) hF3 ((Keep.push _).trans (Keep.push _)) (ItAt.new hF2 rfl) ?_ p1 _ fun f s' q => q
            rw [← esz]
            exact Heap.get?_push_size _ rfl
      | _ => exact p1.elim
    | _ => exact p1.elim
  | _, _, .forL (i := i) (l := l) (b := b) (x := x) (p1 := p1) (v := v) (b' := b') (pos := pos) hi hl hfs hv hb => by
    intro ρ A fs s k Q E hA hL hF p
    rw [exS] at p
    refine wpAny_For ((snd hc hcall hk hv).1 A fs s k _ E hA hF (PostE.toS (Q := _) (Q' := fun _ _ => True) (R := fun r => match r with
      | .ok (.d (.list xs)) k => turns (exSs call b) i xs ρ k
      | .exc k => .exc k
      | _ => .bad) (fun _ => rfl) rfl p fun z k1 w h1 tk1 _ B1 hw p1 => ?_)) (hfs _)
    cases z with
    | d z =>
      cases z with
      | list xs =>
        obtain ⟨q, vs, as, rfl, hlk, hlist, hr, hcl, ha⟩ := vr_lst_inv hw
        refine wpAny_pyIter_list hlist ?_
        have hF1 := hF.up B1
        have hF2 : Fm c sl fs L ρ (h1.push { cls := .type "list_iterator", data := .fields #[.ref q, .int 0 0] }) k1 := hF1.up (s := { s with heap := h1 }) ⟨fun b o e => Heap.get?_push_of_some _ (B1.base b o e), RowAt.up (F := []) (ex := fun _ => False) (Keep.push _) id B1.row, Keep.push _⟩
        exact loopL_ok (s := { s with heap := h1, toks := tk1 }) hk hnd hi hl (sndSs hc hcall hR hap hk hnd hb) hA hL (Heap.get?_none_of_le (Nat.le_refl _)) hF2 (Keep.push _) (ItAt.new hF1 rfl) ⟨_, Heap.get?_push_size _ rfl, rfl, rfl⟩ (hw.up (F := frs fs) (ex := (· = c.ra)) (Keep.push _) B1.row exRa) p1 _ fun f s' q => q
      | _ => exact p1.elim
    | _ => exact p1.elim
  | _, _, .app (i := i) (e := e) (x := x) (p1 := p1) (y := y) (p2 := p2) (v := v) (p3 := p3) (pos := pos) hi hl hd hy hM hv => by
    intro ρ A fs s k Q E hA hL hF p
    rw [exS] at p
    subst hy
    obtain ⟨m, F, he⟩ := hF.fr
    cases ei : ρ[i]? with
    | none => simp only [ei] at p; exact p.elim
    | some w =>
      simp only [ei] at p
      cases w with
      | row =>
        obtain ⟨u, hu, hur⟩ := he i x hi _ ei (by intro q; cases q)
        obtain rfl : u = .ref c.ra := hur
        obtain ⟨pl, hpl⟩ := hM (envOf name sc L a cd)
        refine wpAny_Expr (hi := by show ((sc.kind == .module) && _) = false; rw [hk]; rfl) (MethodCall_ (pl := pl) (wpAny_Name (wpAny_loadName_local hk hl F.ns hu ?_) hd) hpl)
        obtain ⟨vs0, o0, n0, e0, c0, d0, dd0, s0, i0⟩ := id hF.row
        refine getMethod_list_of PySem.F.slot_list_append PySem.F.type_list_append ⟨o0, e0, c0, n0, dd0⟩ ⟨o0, e0, d0⟩ ?_
        refine callWith_method1 (args_cons ((snd hc hcall hk hv).1 A fs s k _ E hA hF (PostE.toS (R := fun r => match r with
          | .ok (.d (.int v)) k => (match call 99 [.d (.int v)] k with
            | .ok _ k => .next ρ k
            | _ => .bad)
          | .exc k => .exc k
          | _ => .bad) (Q := _) (Q' := fun _ _ => True) (fun _ => rfl) rfl p fun z k1 w h1 tk1 _ B1 hw p1 => args_nil ?_)) (star_of hv)) (star_of hv)
        cases z with
        | d z =>
          cases z with
          | int z =>
            cases e1 : call 99 [.d (.int z)] k1 with
            | ok r k2 =>
              simp only [e1] at p1
              obtain ⟨q1, q2, q3, q4, q5⟩ := hap _ _ _ _ e1
              subst q1
              obtain ⟨t, rfl⟩ := vr_int_inv hw
              exact app_ok hF B1 q2 q3 q4 q5 p1
            | exc k2 => simp only [e1] at p1; exact p1.elim
            | bad => simp only [e1] at p1; exact p1.elim
          | _ => exact p1.elim
        | _ => exact p1.elim
      | _ => exact p.elim
theorem sndSs (hc : Top0 c) (hcall : CallOk c call N) (hR : RaiseOk c) (hap : AppOk c call) (hk : sc.kind = .function) (hnd : sl.Nodup) : ∀ {m : MSs} {t : List Stmt}, CkSs sc sl m t → SsOk c call N sc sl name L a cd m t
  | _, _, .nil => fun ρ A fs s k Q E hA hL hF p => wpAny_execs_nil (p s.heap s.toks hF Keep.refl)
  | _, _, .cons (s := m) (r := r) (t := t) (ts := ts) hm hr => by
    intro ρ A fs s k Q E hA hL hF p
    rw [exSs] at p
    refine wpAny_execs_cons (sndS hc hcall hR hap hk hnd hm ρ A fs s k _ E hA hL hF ?_)
    revert p
    cases exS call m ρ k with
    | next ρ1 k1 => exact fun p h1 tk1 F1 K1 => sndSs hc hcall hR hap hk hnd hr ρ1 A fs _ k1 Q E hA hL F1 (PostS.shift K1 p)
    | ret v k1 => exact fun p => p
    | exc k1 => exact fun p => p
    | bad => exact fun p => p
end
end
end Mine

end

-- Snd10
section
open PySem PySem.W PyProof.Rows PySem.Calls
namespace Mine
set_option maxRecDepth 100000

theorem lookup_of_mem {x : Str} {v : Value} : ∀ {l : List (Str × Value)}, (l.map (·.1)).Nodup → (x, v) ∈ l → l.lookup x = some v
  | [], _, m => nomatch m
  | (y, w) :: r, hn, m => by
    rw [List.map_cons, List.nodup_cons] at hn
    rw [List.lookup_cons]
    rcases List.mem_cons.mp m with e | m'
    · cases e
      rw [beq_self_eq_true]
    · have hne : (x == y) = false := by
        refine beq_eq_false_iff_ne.mpr fun q => hn.1 ?_
        subst q
        exact List.mem_map.mpr ⟨_, m', rfl⟩
      rw [hne]
      exact lookup_of_mem hn.2 m'

theorem zip_fst_nodup : ∀ {sl : List Str} {args : List Value}, sl.Nodup → ((sl.zip args).map (·.1)).Nodup
  | [], _, _ => by simp
  | _ :: _, [], _ => by simp
  | x :: sl, v :: args, h => by
    rw [List.nodup_cons] at h
    rw [List.zip_cons_cons, List.map_cons, List.nodup_cons]
    refine ⟨fun m => h.1 ?_, zip_fst_nodup h.2⟩
    obtain ⟨p, hp, e⟩ := List.mem_map.mp m
    have := (List.of_mem_zip (a := p.1) (b := p.2) hp).1
    exact (show p.1 = x from e) ▸ this

theorem zip_lookup {sl : List Str} {args : List Value} (hn : sl.Nodup) {i : Nat} {x : Str} {v : Value} (h1 : sl[i]? = some x) (h2 : args[i]? = some v) : (sl.zip args).reverse.lookup x = some v := by
  refine lookup_of_mem (by rw [List.map_reverse]; exact List.pairwise_reverse.mpr ((zip_fst_nodup (args := args) hn).imp fun h q => h q.symm)) (List.mem_reverse.mpr ?_)
  exact List.mem_of_getElem? (i := i) (by rw [List.getElem?_zip_eq_some]; exact ⟨h1, h2⟩)

theorem pad_at : ∀ {n : Nat} {vs : List V} {i : Nat} {y : V}, (pad n vs)[i]? = some y → y ≠ .un → vs[i]? = some y
  | 0, _, _, _, h, _ => by cases h
  | _ + 1, [], 0, _, h, hn => by cases h; exact absurd rfl hn
  | n + 1, [], i + 1, _, h, hn => by
    have := pad_at (n := n) (vs := []) (i := i) (by rw [pad, List.getElem?_cons_succ] at h; exact h) hn
    cases this
  | _ + 1, v :: r, 0, _, h, _ => by rw [pad] at h; exact h
  | n + 1, v :: r, i + 1, _, h, hn => by
    rw [pad, List.getElem?_cons_succ] at h
    rw [List.getElem?_cons_succ]
    exact pad_at h hn

theorem VRs.at {c : Cx} {h : Heap} : ∀ {args : List Value} {vs : List V} {i : Nat} {y : V}, VRs c h args vs → vs[i]? = some y → ∃ v, args[i]? = some v ∧ VR c h v y
  | [], [], _, _, _, e => by cases e
  | v :: _, w :: _, 0, _, x, e => by cases e; exact ⟨v, rfl, x.1⟩
  | _ :: args, _ :: vs, i + 1, _, x, e => VRs.at (i := i) x.2 e
  | [], _ :: _, _, _, x, _ => x.elim
  | _ :: _, [], _, _, x, _ => x.elim

structure FnText (fn : Fn) (params : Arguments) (body : List Stmt) (scope : Scope) (sl : List Str) : Prop where
  kind : scope.kind = .function
  gen : scope.isGenerator = false
  cor : scope.isCoroutine = false
  cell : ∀ x ∈ scope.names, x.2 ≠ .cell
  nodup : sl.Nodup
  loc : ∀ i x, i < fn.arity → sl[i]? = some x → scope.names.lookup x = some .local
  bind : ∀ (name : Str) (pm cd doc : Value) (args : List Value), args.length = fn.arity → bindArgs (Calls.docDef name params body scope pm cd doc) ⟨args, []⟩ = pure (sl.zip args)
  ck : CkSs scope sl fn.body body

structure FnObj (c : Cx) (f : Nat) (params : Arguments) (body : List Stmt) (scope : Scope) : Prop where
  ob : ∃ a o name pm cd doc, c.mg (nameOf f) = some (.ref a) ∧ c.g.get? a = some o ∧ o.data = .func (Calls.docDef name params body scope pm cd doc) ∧ c.g.CodeRec cd name

section
variable {c : Cx} {call : Nat → List V → Nat → Out} {N : Nat}

theorem frs_cons {name : Str} {scope : Scope} {L a : Addr} {cd : Value} {fs : List Env} : frs (envOf name scope L a cd :: fs) = L :: frs fs := rfl

theorem size_le {A : Around} {n : Nat} {fs : List Env} {h : Heap} (hA : Ar c A n fs) (hff : h.FunFrames c.g fs) : c.g.objs.size ≤ h.objs.size := by
  obtain ⟨b, m, e⟩ := hA.top
  obtain ⟨_, o, ho, _⟩ := hff.mem m
  exact Nat.le_trans e (Nat.le_of_lt (Heap.lt_size ho))

theorem Ar.in {A : Around} {fs : List Env} {h : Heap} {name : Str} {scope : Scope} {a : Addr} {cd : Value} {k : Nat} (hA : Ar c A (N + 1) fs) (hff : h.FunFrames c.g fs) (hrow : RowAt c h k) : Ar c (A.deeper (envOf name scope h.objs.size a cd)) N (envOf name scope h.objs.size a cd :: fs) where
  handled := hA.handled
  depth := by have := hA.depth; show A.depth + 1 + N + 10 < _; omega
  units := by have := hA.units; show A.units + 3 + 3 * N + 200 < _; omega
  frames := by show A.frames.map _ = _; rw [hA.frames]; rfl
  nra := by
    rw [frs_cons]
    intro m
    rcases List.mem_cons.mp m with e | m
    · exact Nat.lt_irrefl _ (e ▸ ra_lt hrow)
    · exact hA.nra m
  top := ⟨h.objs.size, .head _, size_le hA hff⟩

/-- an exception leaves a frame -/
theorem leave_ok {M : Model} {A : Around} {fs : List Env} {s' : Shared} {G0 h1 : Heap} {k : Nat} {e : Addr} {name : Str} {scope : Scope} {a : Addr} {cd : Value} {m1 : Str → Option Value} {Q : Unit → Shared → Prop} {E : Value → Shared → Prop}
    (hfr : A.frames = some fs) (hff : G0.FunFrames c.g fs) (F1 : Fr G0 G0.objs.size h1 m1) (hnra : c.ra ∉ frs fs) (hra : c.ra ≠ G0.objs.size)
    (x : ExcS c (envOf name scope G0.objs.size a cd :: fs) G0.objs.size h1 k e s'.heap) (hQ : ∀ h', Exc c fs G0 k e h' → Q () { s' with heap := h' }) :
    wpAny M (A.deeper (envOf name scope G0.objs.size a cd)) (leaving (envOf name scope G0.objs.size a cd) (.ref e)) Q E s' := by
  have hfr' : (A.deeper (envOf name scope G0.objs.size a cd)).frames = some (envOf name scope G0.objs.size a cd :: fs) := by show A.frames.map _ = _; rw [hfr]; rfl
  have hin : ∀ b o, G0.get? b = some o → b ≠ c.ra → ¬ exL c G0.objs.size b := fun b o e n q => q.elim n fun q => Nat.lt_irrefl _ (q ▸ Heap.lt_size e)
  have hnf : ∀ b o, G0.get? b = some o → b ∉ frs fs → b ∉ frs (envOf name scope G0.objs.size a cd :: fs) := fun b o e n q => by
    rw [frs_cons] at q
    rcases List.mem_cons.mp q with q | q
    · exact Nat.lt_irrefl _ (q ▸ Heap.lt_size e)
    · exact n q
  have hdat : ∀ b o, b ∈ frs fs → G0.get? b = some o → ∀ vs, o.data ≠ .fields vs := fun b o m e => by
    obtain ⟨_, o', e', d⟩ := hff.mem m
    rw [e] at e'
    cases e'
    exact d
  rcases x with ⟨h, m, a1, a2, a3, a4, a5, a6⟩ | ⟨B, a0, b1, b2, b3, b4, b5⟩
  · obtain ⟨ob, vs, tp, he, hcls, hd, hv0, hv1⟩ := a6.there
    have hall : ∀ env ∈ (envOf name scope G0.objs.size a cd :: fs), ∀ b, env.frame = some b → b ∈ frs (envOf name scope G0.objs.size a cd :: fs) := fun env he b hb => List.mem_filterMap.mpr ⟨env, he, hb⟩
    have hen : (hideAll h (frs (envOf name scope G0.objs.size a cd :: fs))).get? e = none := by
      cases q : (hideAll h (frs (envOf name scope G0.objs.size a cd :: fs))).get? e with
      | none => rfl
      | some o => have := of_hideAll _ q; rw [a6.new] at this; cases this
    refine wpAny_leaving_firstW (base := hideAll h (frs (envOf name scope G0.objs.size a cd :: fs))) hfr' ((funFrames_hide a5 hall).of_keeps fun b o hb _ => ⟨o, a6.keeps b o hb, rfl⟩) rfl he (fun b o hb => a6.keeps b o (of_hideAll _ hb)) hen hd hv1 hv0 fun h' hL => ?_
    obtain ⟨k1, ⟨_, _, k2⟩, k3, k4⟩ := hL
    have inB : ∀ b o, b ≠ c.ra → G0.get? b = some o → b ∉ frs fs → (hideAll h (frs (envOf name scope G0.objs.size a cd :: fs))).get? b = some o := fun b o n e nf => hideAll_get _ ((a3 b o (hin b o e n) (F1.keep b o e)).2 (hnf b o e nf)) (hnf b o e nf)
    refine hQ h' ⟨_, tp, fun b o q => ?_, inB, ?_, ⟨k1, hen, k2, by rw [← hcls]; exact k3⟩, fun b o n e => ⟨fun mf => ?_, fun nf => k1 b o (inB b o n e nf)⟩⟩
    · refine hideAll_get _ (a1 b o q) fun hm => ?_
      rw [(a5.mem hm).1] at q
      cases q
    · obtain ⟨vs, o, n, e, r⟩ := a2
      refine ⟨vs, o, n, hideAll_get _ e fun hm => ?_, r⟩
      rw [frs_cons] at hm
      rcases List.mem_cons.mp hm with q | q
      · exact hra q
      · exact hnra q
    · obtain ⟨sl, e2⟩ := (a3 b o (hin b o e n) (F1.keep b o e)).1 (by rw [frs_cons]; exact .tail _ mf)
      obtain ⟨sl', e3⟩ := k4 b _ (a6.keeps b _ e2) (hdat b o mf e)
      exact ⟨sl', e3⟩
  · refine wpAny_leaves_onW hfr' rfl b4 fun h' x1 x2 => ?_
    refine hQ h' ⟨B, a0, b1, fun b o n e nf => b2 b o (hin b o e n) (F1.keep b o e) (hnf b o e nf), b3, x1, fun b o n e => ⟨fun mf => ?_, fun nf => x1.1 b o (b2 b o (hin b o e n) (F1.keep b o e) (hnf b o e nf))⟩⟩
    obtain ⟨sl, e2⟩ := (b5 b o (hin b o e n) (F1.keep b o e)).1 (by rw [frs_cons]; exact .tail _ mf)
    obtain ⟨sl', e3⟩ := x2 b _ e2 (hdat b o mf e)
    exact ⟨sl', e3⟩

/-- the keeping of a whole call -/
theorem keep_call {fs : List Env} {G0 h1 h' : Heap} {name : Str} {scope : Scope} {a : Addr} {cd : Value} {m1 : Str → Option Value} (F1 : Fr G0 G0.objs.size h1 m1) (K : Keep (frs (envOf name scope G0.objs.size a cd :: fs)) (exL c G0.objs.size) h1 h') : Keep (frs fs) (· = c.ra) G0 h' := fun b o n e => by
  have hx : ¬ exL c G0.objs.size b := fun q => q.elim n fun q => Nat.lt_irrefl _ (q ▸ Heap.lt_size e)
  refine ⟨fun m => (K b o hx (F1.keep b o e)).1 (by rw [frs_cons]; exact .tail _ m), fun nf => (K b o hx (F1.keep b o e)).2 fun q => ?_⟩
  rw [frs_cons] at q
  rcases List.mem_cons.mp q with q | q
  · exact Nat.lt_irrefl _ (q ▸ Heap.lt_size e)
  · exact nf q

noncomputable def bodyOf (call : Nat → List V → Nat → Out) (fn : Fn) (vs : List V) (k : Nat) : Out := match Nat.beq vs.length fn.arity with
  | true => match exSs call fn.body (pad fn.slots vs) k with
    | .ret v k => .ok v k
    | .exc k => .exc k
    | _ => .bad
  | false => .bad

/-- the state in a frame just made -/
theorem Fm.new {A : Around} {fs : List Env} {s : Shared} {k : Nat} {n : Nat} {args : List Value} {vs : List V} {sl : List Str} {nm : Str} {scope : Scope} {a : Addr} {cd : Value} {h1 : Heap} {slots : Nat} (hk : scope.kind = .function) (hnd : sl.Nodup)
    (hA : Ar c A n fs) (hff : s.heap.FunFrames c.g fs) (hb : c.g.StaysIn s.heap) (hrow : RowAt c s.heap k) (hv : VRs c s.heap args vs) (F : Fr s.heap s.heap.objs.size h1 (fun x => (sl.zip args).reverse.lookup x)) :
    Fm c sl (envOf nm scope s.heap.objs.size a cd :: fs) s.heap.objs.size (pad slots vs) h1 k := by
  have hra : c.ra ≠ s.heap.objs.size := fun q => Nat.lt_irrefl _ (q ▸ ra_lt hrow)
  refine ⟨⟨_, ⟨F.ns, fun b o e => F.keep b o (hb b o e), size_le hA hff⟩, fun i x hi y hy hn => ?_⟩, ?_, RowAt.up (F := []) (ex := fun _ => False) (.of_keeps fun b o _ e => F.keep b o e) id hrow, ?_, fun q => hra q.symm⟩
  · obtain ⟨v, e1, e2⟩ := hv.at (pad_at hy hn)
    exact ⟨v, zip_lookup hnd hi e1, e2.up (F := []) (ex := fun b => b = c.ra) (.of_keeps fun b o _ e => F.keep b o e) hrow exRa⟩
  · refine Heap.FunFrames.cons (by show scope.kind ≠ .module; rw [hk]; decide) rfl F.ns (Heap.get?_none_of_le (size_le hA hff)) (hff.of_keeps fun b o e _ => ⟨o, F.keep b o e, rfl⟩)
  · rw [frs_cons]
    intro m
    rcases List.mem_cons.mp m with e | m
    · exact hra e
    · exact hA.nra m

theorem call_body (hc : Top0 c) (hlim : c.g.NoLimit) (hcall : CallOk c call N) (hR : RaiseOk c) (hap : AppOk c call) {f : Nat} {fn : Fn} {params : Arguments} {body : List Stmt} {scope : Scope} {sl : List Str} (T : FnText fn params body scope sl) (O : FnObj c f params body scope)
    {fa : Addr} {vs : List V} {k : Nat} {A : Around} {fs : List Env} {s : Shared} {args : List Value} {Q E : Value → Shared → Prop} (hat : FnAt c f fa) (hA : Ar c A (N + 1) fs) (hff : s.heap.FunFrames c.g fs) (hb : c.g.StaysIn s.heap) (hrow : RowAt c s.heap k)
    (hv : VRs c s.heap args vs) (p : PostE c fs s (bodyOf call fn vs k) Q E) : wpAny (model c.prog c.w) A (PySem.call (.ref fa) args) Q E s := by
  unfold bodyOf at p
  by_cases hlen : Nat.beq vs.length fn.arity = true
  case neg => rw [Bool.not_eq_true] at hlen; rw [hlen] at p; exact p.elim
  rw [hlen] at p
  have hlen' : args.length = fn.arity := by rw [VRs.length hv]; exact Nat.eq_of_beq_eq_true hlen
  obtain ⟨a, o, nm, pm, cd, doc, h1, h2, h3, h4⟩ := O.ob
  have : a = fa := by
    have := h1.symm.trans hat.bound
    injection this with this
    injection this
  subst this
  have hra : c.ra ≠ s.heap.objs.size := fun q => Nat.lt_irrefl _ (q ▸ ra_lt hrow)
  refine wpAny_call (call_plain (by have := hA.depth; omega) (hb _ _ h2) h3 (hlim.keeps hb) (h4.keeps hb) (T.bind nm pm cd doc args hlen') (fun x hx => ?_) (fun h₁ F => ?_) T.cor T.gen T.kind T.cell)
  · obtain ⟨i, hi, e⟩ := List.mem_iff_getElem.mp hx
    have hi' := hi
    rw [List.length_zip] at hi'
    rw [List.getElem_zip] at e
    refine T.loc i x.1 (by omega) ?_
    rw [← e]
    exact List.getElem?_eq_getElem (by omega)
  · have hA' : Ar c (A.deeper (envOf nm scope s.heap.objs.size a cd)) N (envOf nm scope s.heap.objs.size a cd :: fs) := hA.in hff hrow
    have hF' : Fm c sl (envOf nm scope s.heap.objs.size a cd :: fs) s.heap.objs.size (pad fn.slots vs) h₁ k := Fm.new T.kind T.nodup hA hff hb hrow hv F
    refine sndSs hc hcall hR hap T.kind T.nodup T.ck _ _ _ _ k _ _ hA' (.head _) hF' ?_
    revert p
    cases exSs call fn.body (pad fn.slots vs) k with
    | next ρ k1 => exact fun p => p.elim
    | ret y k1 => exact fun p v h' tk' a b d e => p v h' tk' a b (keep_call F d) e
    | exc k1 => exact fun p e h' tk' x => leave_ok (s' := { s with heap := h', toks := tk' }) hA.frames hff F hA.nra hra x fun h'' y => p e h'' tk' y
    | bad => exact fun p => p.elim
end
end Mine

end

-- Snd11
section
open PySem PySem.W PyProof.Rows PySem.Calls Builtin Builtin.ObjectAttr
namespace Mine
set_option maxRecDepth 100000

section
variable {prog : Program} {w : World} {A : Around} {E : Value → Shared → Prop} {h : Heap} {g : Array GenState} {d : Drawn} {t : Nat} {os : OsState}
variable {nm q : Str} {C N x : Addr} {bs bm bmB : List Value} {sn : List Str} {sub : List Value} {ab : Bool} {col : Option Bool} {dd : Option Addr} {k0 k1 k2 k3 k5 : Option Value} {B newId initId : String}
  {name : Str} {v : Value}

theorem x_check {M : Model} {o : Obj} {nameV : Value} {Q : Unit → Shared → Prop} (hob : bm.contains (.type "object") = true)
    (hC : h.get? C = some (excClassObj nm q C N bs bm true sn sub ab col dd k0 k1 k2 k3 k5 newId)) (hx : h.get? x = some o) (hc : o.cls = .ref C) (hq : Q () ⟨h, g, d, t, os⟩) :
    wpAny M A (checkBuiltinCall "object.__setattr__" ⟨[.ref x, nameV, v], []⟩) Q E ⟨h, g, d, t, os⟩ := by
  have SF := PySem.F.store_Exception
  have hcB : (Value.ref C :: bm).contains (.type "object") = true := by rw [List.contains_cons, hob, Bool.or_true]
  have ha := SF.args (.ref x) nameV v
  simp only [checkBuiltinCall, SF.kind, SF.split]
  refine wpAny_bind ?_
  · unfold isInstance
    repeat (first | (with_reducible refine wpAny_loadPart_at hx ?_; rw [hc]) | (with_reducible refine wpAny_isSubtype_exc hC ?_; rw [hcB]) | wp_step)
    exact hq

theorem x_entry {o : Obj} {tk : Tok} {Q : Fin → Shared → Prop} (hpass : refuseLoop (.ref x) "__setattr__" bm = pure ())
    (hC : h.get? C = some (excClassObj nm q C N bs bm true sn sub ab col dd k0 k1 k2 k3 k5 newId)) (hL : Looks (model prog w) h (typeLookup (.ref C) name) none)
    (hx : h.get? x = some o) (hc : o.cls = .ref C) (hnc : ∀ c, o.data ≠ .cls c) (hdn : o.dict = none)
    (hq : ∀ h' tk', (∀ b ob, b ≠ x → h.get? b = some ob → h'.get? b = some ob) → h'.get? x = some { o with dict := some h.objs.size } → Q (.done (.ret .none)) ⟨h', g, d, tk', os⟩) :
    wpAny (model prog w) A (Builtin.«object.__setattr__» ⟨[.ref x, .str name tk, v], []⟩) Q E ⟨h, g, d, t, os⟩ := by
  unfold Builtin.«object.__setattr__»
  repeat (first | rw [refuse_eq] | (rw [refuseLoop_ref, hpass]) | (with_reducible refine wpAny_loadPart_at hx ?_; rw [hc]) | with_reducible refine wpAny_mroOf_exc hC ?_ | (with_reducible refine hL.at ?_) | wp_step)
  rw [hdn, if_neg (by simp [typeHasDict])]
  split
  · rename_i hcd
    cases hcd
  split
  · rename_i c hcd
    exact absurd hcd (hnc c)
  · have hx₁ : (h.push { cls := .type "dict", data := .dict #[] }).get? x = some o := Heap.get?_push_of_some _ hx
    have hxs : x ≠ h.objs.size := Nat.ne_of_lt (Heap.lt_size hx)
    refine wpAny_bind (wpAny_alloc' ?_)
    refine wpAny_bind (wpAny_update' hx₁ ?_)
    refine wpAny_pure ?_
    have hgd : ((h.push { cls := .type "dict", data := .dict #[] }).update x fun o => { cls := o.cls, dict := some h.objs.size, data := o.data, slots := o.slots }).get? h.objs.size
        = some { cls := .type "dict", data := .dict #[] } :=
      (Heap.get?_update_ne _ _ _ _ hxs.symm).trans (Heap.get?_push_at rfl rfl)
    have hnd : ((h.push { cls := .type "dict", data := .dict #[] }).update x fun o => { cls := o.cls, dict := some h.objs.size, data := o.data, slots := o.slots }).Ns h.objs.size (fun _ => none) :=
      ⟨_, #[], _, hgd, rfl, fun e he => absurd he (by simp), fun _ => rfl⟩
    show wpAny _ _ (storeInDict h.objs.size (.str name tk) name v) _ _ _
    unfold storeInDict newKeyGuard
    refine wpAny_bind (wpAny_pure (wpAny_bind (wpAny_nsSet1 (Heap.Ns1.of_empty hnd) fun h' hn' hs => ?_)))
    obtain ⟨oD, esD, epD, hoD, hdD, hcD⟩ := hn'.count (Within.cons name v Within.nil)
    refine wpAny_bind (wpAny_lookBehind hoD (by rw [hdD]; exact pastItsLine_dict (Nat.le_trans hcD (by rw [List.length_cons, List.length_nil, sizeLine_eq]; omega))) ?_)
    wp_walk
    refine hq h' _ (fun b ob hbx hb => ?_) ?_
    · exact (hs.2 b (Nat.ne_of_lt (Heap.lt_size hb))).trans ((Heap.get?_update_ne _ _ _ _ hbx).trans (Heap.get?_push_of_some _ hb))
    · refine (hs.2 x hxs).trans (Heap.get?_update_self _ hx₁ ?_)
      have hfr := (Heap.get?_some_iff.mp hx).2
      obtain ⟨oc, od, odt, osl⟩ := o
      cases odt <;> first | rfl | exact hfr

theorem x_setAttr {o : Obj} {Q : Unit → Shared → Prop} (hob : bm.contains (.type "object") = true) (hpass : refuseLoop (.ref x) "__setattr__" bm = pure ())
    (hC : h.get? C = some (excClassObj nm q C N bs bm true sn sub ab col dd k0 k1 k2 k3 k5 newId)) (hL : Looks (model prog w) h (typeLookup (.ref C) name) none) (hS : Looks (model prog w) h (typeLookup (.ref C) "__setattr__") (some (.builtin "object.__setattr__")))
    (hx : h.get? x = some o) (hc : o.cls = .ref C) (hnc : ∀ c, o.data ≠ .cls c) (hdn : o.dict = none)
    (hq : ∀ h' tk', (∀ b ob, b ≠ x → h.get? b = some ob → h'.get? b = some ob) → h'.get? x = some { o with dict := some h.objs.size } → Q () ⟨h', g, d, tk', os⟩) :
    wpAny (model prog w) A (setAttr (.ref x) name v) Q E ⟨h, g, d, t, os⟩ := by
  have SF := PySem.F.store_Exception
  have f3 := SF.slot.bind (.ref x)
  unfold setAttr callSpecial? specialOf
  repeat (any_goals (first | assumption | (with_reducible refine wpAny_loadPart_at hx ?_; rw [hc]) | (with_reducible refine hS.at ?_) | wp_step))
  refine codeAny_call_builtin SF.slot.plain SF.entry (x_check hob hC hx hc (x_entry hpass hC hL hx hc hnc hdn fun h' tk' I' hk => ?_))
  repeat (any_goals (first | assumption | wp_step))
  exact hq h' tk' I' hk

theorem x_type_call (F : ExcBaseFacts B newId initId bmB) (T : OwnTail h bmB bm) {rest : List Value} {fI : Addr} {oI : Obj} {Q : Fin → Shared → Prop}
    (hC : h.get? C = some (excClassObj nm q C N bs bm true sn sub ab col dd k0 k1 k2 k3 k5 newId)) (hL : Looks (model prog w) h (typeLookup (.ref C) "__init__") (some (.ref fI)))
    (hfI : h.get? fI = some oI) (hfc : oI.cls = .type "function")
    (hq : ∀ h' e, Heap.MadeExcOf h h' e (.ref C) rest →
      wpAny (model prog w) A (call (.ref fI) (.ref e :: rest)) (fun r s' => r = .none ∧ Q (.done (.ret (.ref e))) s') E ⟨h', g, d, t, os⟩) (hrest : rest.length ≤ sizeLine) :
    wpAny (model prog w) A (Builtin.«type.__call__» ⟨.ref C :: rest, []⟩) Q E ⟨h, g, d, t, os⟩ := by
  repeat (first | with_reducible refine wpAny_loadPart_at hC ?_ | with_reducible refine wpAny_madeBy_exc hC ?_ | wp_step)
  refine codeAny_call_builtin_code (Code.quiet_builtin _ F.quiet) (wpAny_check_new_subT F T hC ?_)
  refine codeAny_exc_new_subT F T hC ?_ hrest
  show wpAny _ _ _ _ _ _
  have hC₁ := Heap.get?_push_of_some { cls := .ref C, data := .fields #[.ref h.objs.size, .none, .none, .none, .bool false, .none] }
    (Heap.get?_push_of_some { cls := .type "tuple", data := .seq rest.toArray } hC)
  have hfI₁ := Heap.get?_push_of_some { cls := .ref C, data := .fields #[.ref h.objs.size, .none, .none, .none, .bool false, .none] }
    (Heap.get?_push_of_some { cls := .type "tuple", data := .seq rest.toArray } hfI)
  have hget : ((h.push { cls := .type "tuple", data := .seq rest.toArray }).push
      { cls := .ref C, data := .fields #[.ref h.objs.size, .none, .none, .none, .bool false, .none] }).get? (h.objs.size + 1) = some
      { cls := .ref C, data := .fields #[.ref h.objs.size, .none, .none, .none, .bool false, .none] } := by heap_get
  have hcC : (Value.ref C :: bm).contains (.ref C) = true := by simp
  unfold isInstance
  repeat (first | with_reducible refine wpAny_loadPart_at hget ?_ | (with_reducible refine wpAny_isSubtype_exc hC₁ ?_; rw [hcC]) | wp_step)
  show wpAny _ _ (typeLookup (.ref C) _) _ _ _
  refine hL _ _ _ _ (fun b o e => Heap.get?_push_of_some _ (Heap.get?_push_of_some _ e)) ?_
  refine wpAny_holding (wpAny_bind ?_)
  unfold bindSpecial
  refine wpAny_bind (wpAny_typeOf (T := "function") ⟨_, hfI₁, hfc⟩ ?_)
  rw [if_pos (by decide)]
  refine wpAny_pure (wpAny_bind (wpAny_mono (hq _ (h.objs.size + 1) ⟨fun b o hb => Heap.get?_push_of_some _ (Heap.get?_push_of_some _ hb), Heap.get?_none_of_le (Nat.le_succ _), h.objs.size, hget, Heap.get?_none_of_le (Nat.le_refl _), ?_⟩) (fun r s' hr => ?_) fun _ _ x => x))
  · exact Heap.get?_push_of_some _ (Heap.get?_push_at rfl rfl)
  · obtain ⟨rfl, hQ⟩ := hr
    wp_walk
    exact hQ

theorem x_call (F : ExcBaseFacts B newId initId bmB) (T : OwnTail h bmB bm) {rest : List Value} {fI : Addr} {oI : Obj} {Q : Value → Shared → Prop}
    (hC : h.get? C = some (excClassObj nm q C N bs bm true sn sub ab col dd k0 k1 k2 k3 k5 newId)) (hL : Looks (model prog w) h (typeLookup (.ref C) "__init__") (some (.ref fI)))
    (hfI : h.get? fI = some oI) (hfc : oI.cls = .type "function")
    (hq : ∀ h' e, Heap.MadeExcOf h h' e (.ref C) rest →
      wpAny (model prog w) (A.under (.builtin "type.__call__" ⟨.ref C :: rest, []⟩)) (call (.ref fI) (.ref e :: rest)) (fun r s' => r = .none ∧ Q (.ref e) s') E ⟨h', g, d, t, os⟩) (hrest : rest.length ≤ sizeLine) :
    wpAny (model prog w) A (call (.ref C) rest) Q E ⟨h, g, d, t, os⟩ := by
  have f1 := tc_lookup
  have f2 := tc_bind (.ref C)
  have hT : (⟨h, g, d, t, os⟩ : Shared).TypeIs (.ref C) "type" := ⟨_, hC, rfl⟩
  refine wpAny_call (codeAny_of_tree ?_)
  show wpAny _ _ (callAny (.ref C) _) _ _ _
  repeat (any_goals (first | assumption | with_reducible refine wpAny_loadPart_at hC ?_ | wp_step))
  refine ⟨rfl, ?_⟩
  refine codeAny_call_builtin_at (Code.quiet_builtin _ (by decide +kernel)) entry_typeCall (wpAny_check_type_call_sub hC (x_type_call F T hC hL hfI hfc (fun h' e hm => ?_) hrest))
  exact hq h' e hm
end

section
variable {M : Model} {A : Around} {E : Value → Shared → Prop} {env : Env}
variable {nm q : Str} {C N : Addr} {bs bm : List Value} {hdct : Bool} {sn : List Str} {sub : List Value} {ab : Bool} {col : Option Bool} {dd : Option Addr} {k0 k1 k2 k3 k5 : Option Value} {newId : String}
theorem x_raise {s : Shared} {x : Sem Value} {Q : Flow → Shared → Prop} (hbase : bm.contains (.type "BaseException") = true) (hh : A.handled = none)
    (h : wpAny M A x (fun v s₁ => ∃ e t dx, v = .ref e ∧ s₁.heap.get? C = some (excClassObj nm q C N bs bm hdct sn sub ab col dd k0 k1 k2 k3 k5 newId) ∧
      s₁.heap.get? e = some { cls := .ref C, dict := dx, data := .fields #[.ref t, .none, .none, .none, .bool false, .none] } ∧ E (.ref e) s₁) E s) :
    wpAny M A (raiseStmt env (some x) none) Q E s := by
  have hcB : (Value.ref C :: bm).contains (.type "BaseException") = true := by rw [List.contains_cons, hbase, Bool.or_true]
  unfold raiseStmt
  refine wpAny_bind (wpAny_mono h (fun v s₁ h₁ => ?_) fun _ _ x => x)
  obtain ⟨e, t, dx, rfl, hC, he, hE⟩ := h₁
  obtain ⟨hp, g, d, tk, os⟩ := s₁
  repeat (first | with_reducible refine wpAny_loadPart_at he ?_ | with_reducible refine wpAny_loadPart_at hC ?_ | (with_reducible refine wpAny_isSubtype_exc hC ?_; rw [hcB]) | wp_step)
  exact wpAny_raiseNew_none hh hE
end
end Mine

end

-- Snd12
section
open PySem PySem.W PyProof.Rows PySem.Calls
namespace Mine
set_option maxRecDepth 100000

structure BadC where
  nm : Str
  q : Str
  N : Addr
  bs : List Value
  bm : List Value
  bmB : List Value
  sn : List Str
  sub : List Value
  ab : Bool
  col : Option Bool
  dd : Option Addr
  k0 : Option Value
  k1 : Option Value
  k2 : Option Value
  k3 : Option Value
  k5 : Option Value
  B : String
  newId : String
  initId : String
structure BadI where
  fI : Addr
  attr : Str
  name : Str
  qual : Str
  params : Arguments
  scope : Scope
  dV : Value
  kV : Value
  doc : Value
  pm : Value
  an : Option Addr
  cdv : Value
  ct : Value
  od : Option Addr
  sl : Array (Option Value)
  p1 : Pos
  p2 : Pos
  p3 : Pos
  p4 : Pos
  xs : Str
  xw : Str
/-- the class of the own exceptions, as the frozen heap shows it -/
structure BadF (c : Cx) extends BadC, BadI where
  K : Frag
  X : K.In c.g
  hC : K.lookup c.C = some (excClassObj nm q c.C N bs bm true sn sub ab col dd k0 k1 k2 k3 k5 newId)
  F : ExcBaseFacts B newId initId bmB
  T : tailIn K bmB bm = true
  base : bm.contains (.type "BaseException") = true
  obj : bm.contains (.type "object") = true
  pass : ∀ x, refuseLoop (.ref x) "__setattr__" bm = pure ()
  init : findIn K (.ref c.C) "__init__" = some (some (.ref fI))
  set : findIn K (.ref c.C) "__setattr__" = some (some (.builtin "object.__setattr__"))
  what : findIn K (.ref c.C) attr = some none
  fn : K.lookup fI = some ⟨.type "function", od, .func (fnOf name qual params [.Assign [.Attribute (.Name xs p1) attr p2] (.Name xw p3) p4] scope dV kV doc pm an cdv ct), sl⟩
  code : codeIn K cdv qual = true
  bind : ∀ e v, bindArgs (fnOf name qual params [.Assign [.Attribute (.Name xs p1) attr p2] (.Name xw p3) p4] scope dV kV doc pm an cdv ct) ⟨[e, v], []⟩ = pure [(xs, e), (xw, v)]
  kind : scope.kind = .function
  gen : scope.isGenerator = false
  cor : scope.isCoroutine = false
  cell : ∀ x ∈ scope.names, x.2 ≠ .cell
  l1 : scope.names.lookup xs = some .local
  l2 : scope.names.lookup xw = some .local
  d1 : (xs == ("__debug__" : Str)) = false
  d2 : (xw == ("__debug__" : Str)) = false
  ne : (xs == xw) = false
  mg : c.mg (Str.ofString "BadRow") = some (.ref c.C)
  lim : c.g.NoLimit

theorem evalOpt_some {e : Expr} {env : Env} : evalOpt (some e) env = some (eval e env) := rfl
theorem evalOpt_none {env : Env} : evalOpt none env = none := rfl
theorem pre_raise {c : Cx} {A : Around} {s : Shared} {env : Env} {x : Str} {np cpos pos : Pos} {e : Expr} {Q : Flow → Shared → Prop} {E : Value → Shared → Prop} (D : BadF c) (hh : A.handled = none) (hstar : ∀ rest env, starEach (e :: rest) env = (false, eval e env) :: starEach rest env)
    (h : wpAny (model c.prog c.w) A (eval (.Name x np) env) (fun f s₁ => f = .ref c.C ∧ wpAny (model c.prog c.w) A (eval e env) (fun v s₂ => c.g.StaysIn s₂.heap ∧
      wpAny (model c.prog c.w) A (call (.ref c.C) [v]) (fun r s₃ => ∃ ex t dx, r = .ref ex ∧ c.g.StaysIn s₃.heap ∧ s₃.heap.get? ex = some { cls := .ref c.C, dict := dx, data := .fields #[.ref t, .none, .none, .none, .bool false, .none] } ∧ E (.ref ex) s₃) E s₂) E s₁) E s) :
    wpAny (model c.prog c.w) A (exec (.Raise (some (.Call (.Name x np) [e] [] cpos)) none pos) env) Q E s := by
  rw [arm_exec_Raise]
  simp only [evalOpt_some, evalOpt_none, Option.map]
  refine wpAny_bind (wpAny_standAt (x_raise (C := c.C) (nm := D.nm) (q := D.q) (N := D.N) (bs := D.bs) (bm := D.bm) (hdct := true) (sn := D.sn) (sub := D.sub) (ab := D.ab) (col := D.col) (dd := D.dd) (k0 := D.k0) (k1 := D.k1) (k2 := D.k2) (k3 := D.k3) (k5 := D.k5) (newId := D.newId) D.base hh (wpAny_bind (wpAny_mono (wpAny_Call_ofName (wpAny_mono h (fun f s₁ h₁ => ?_) fun _ _ x => x)) (fun v s₃ h₃ => wpAny_bind (wpAny_standAt (wpAny_pure h₃))) fun _ _ x => x))))
  obtain ⟨rfl, h₁⟩ := h₁
  have hargs : wpAny (model c.prog c.w) A (evalArgs (.ref c.C) true (backTo cpos (starEach [e] env)) []) (fun a s₂ => ∃ v, a = ⟨[v], []⟩ ∧ c.g.StaysIn s₂.heap ∧
      wpAny (model c.prog c.w) A (call (.ref c.C) [v]) (fun r s₃ => ∃ ex t dx, r = .ref ex ∧ c.g.StaysIn s₃.heap ∧ s₃.heap.get? ex = some { cls := .ref c.C, dict := dx, data := .fields #[.ref t, .none, .none, .none, .bool false, .none] } ∧ E (.ref ex) s₃) E s₂) E s₁ := by
    have z : wpAny (model c.prog c.w) A (spliced (backTo cpos (starEach [e] env))) (fun vs s₂ => ∃ v, (⟨vs, []⟩ : Args) = ⟨[v], []⟩ ∧ c.g.StaysIn s₂.heap ∧
      wpAny (model c.prog c.w) A (call (.ref c.C) [v]) (fun r s₃ => ∃ ex t dx, r = .ref ex ∧ c.g.StaysIn s₃.heap ∧ s₃.heap.get? ex = some { cls := .ref c.C, dict := dx, data := .fields #[.ref t, .none, .none, .none, .bool false, .none] } ∧ E (.ref ex) s₃) E s₂) E s₁ :=
      args_cons (wpAny_mono h₁ (fun v s₂ h₂ => args_nil ⟨v, rfl, h₂⟩) fun _ _ x => x) (hstar _ _)
    rw [hstar] at z ⊢
    exact evalArgs_plain z
  have hplain : (backTo cpos (starEach [e] env)).any (·.1) = false := by rw [hstar]; rfl
  unfold callWith
  refine wpAny_bind (wpAny_holding (wpAny_mono hargs (fun a s₂ h₂ => wpAny_bind (wpAny_standAt ?_)) fun _ _ x => x))
  obtain ⟨v, rfl, hst, h₂⟩ := h₂
  obtain ⟨hp, g, d, tk, os⟩ := s₂
  simp only [hplain]
  refine wpAny_bind (wpAny_keeperOf_exc (hst _ _ (D.X _ _ D.hC)) ?_)
  refine wpAny_bind (wpAny_mono h₂ (fun r s₃ h₃ => wpAny_bind (wpAny_holding (wpAny_point (wpAny_pure ?_)))) fun _ _ x => x)
  obtain ⟨ex, t, dx, rfl, h4, h5, h6⟩ := h₃
  exact ⟨ex, t, dx, rfl, h4 _ _ (D.X _ _ D.hC), h5, h6⟩

/-- the own __init__ -/
theorem init_ok {c : Cx} {A : Around} {s : Shared} {e : Addr} {t : Addr} {v : Value} {Q E : Value → Shared → Prop} (D : BadF c) (hd : A.depth < recursionLimit) (hb : c.g.StaysIn s.heap)
    (he : s.heap.get? e = some { cls := .ref c.C, data := .fields #[.ref t, .none, .none, .none, .bool false, .none] })
    (hQ : ∀ h' tk' dx, (∀ b o, b ≠ e → s.heap.get? b = some o → h'.get? b = some o) → h'.get? e = some { cls := .ref c.C, dict := dx, data := .fields #[.ref t, .none, .none, .none, .bool false, .none] } → Q .none { s with heap := h', toks := tk' }) :
    wpAny (model c.prog c.w) A (call (.ref D.fI) [.ref e, v]) Q E s := by
  have X := D.X.keeps hb
  refine wpAny_call (codeAny_call_def (s := s) hd (X _ _ D.fn) rfl (D.lim.keeps hb) (codeRec_of X D.code) rfl (BindsTo.of_eq (D.bind _ _)) D.cell (fun x hx => ?_) (fun h₁ hns hk₁ => ?_) D.cor D.gen D.kind)
  · simp only [List.mem_cons, List.not_mem_nil, or_false] at hx
    rcases hx with rfl | rfl
    · exact D.l1
    · exact D.l2
  · have hb₁ : c.g.StaysIn h₁ := fun b o q => hk₁ b o (hb b o q)
    have X₁ := D.X.keeps hb₁
    show wpAny _ _ (execs _ (envOf D.qual D.scope s.heap.objs.size D.fI D.cdv)) _ _ _
    refine wpAny_execs_cons (plainObj_wpAny_Assign_Attribute (wpAny_Name (wpAny_loadName_local D.kind D.l2 hns (v := v) ?_ ?_) D.d2) rfl)
    · show List.lookup D.xw [(D.xw, v), (D.xs, .ref e)] = _
      rw [List.lookup_cons_self]
    refine wpAny_Name (wpAny_loadName_local D.kind D.l1 hns (v := .ref e) ?_ ?_) D.d1
    · show List.lookup D.xs [(D.xw, v), (D.xs, .ref e)] = _
      rw [List.lookup_cons, D.ne]
      exact List.lookup_cons_self
    refine x_setAttr D.obj (D.pass e) (X₁ _ _ D.hC) (looks_findIn X₁ D.what) (looks_findIn X₁ D.set) (hk₁ _ _ he) rfl (fun c q => by cases q) rfl fun h' tk' K1 e1 => ?_
    refine wpAny_execs_nil ?_
    exact hQ h' tk' _ (fun b o n q => K1 b o n (hk₁ b o q)) e1

theorem raise_ok {c : Cx} (T0 : Top0 c) (D : BadF c) : RaiseOk c := by
  intro name sc L a cd p1 p2 pos e A fs n s m Q E hk hl hstar hA F h
  refine pre_raise D hA.handled hstar (Calls.Name_function_global hk hl (Calls.loadGlobal_global (env := envOf name sc L a cd) (T0.ns.keeps F.keep) D.mg ?_) (by decide +kernel))
  refine ⟨rfl, wpAny_mono h (fun v s₂ h₂ => ⟨h₂.1, ?_⟩) fun _ _ x => x⟩
  obtain ⟨hst, hE⟩ := h₂
  obtain ⟨hp, g, d, tk, os⟩ := s₂
  have X := D.X.keeps hst
  refine x_call D.F (tail_of_in X D.T) (X _ _ D.hC) (looks_findIn X D.init) (X _ _ D.fn) rfl (fun h' ex hm => ?_) (by show 1 ≤ sizeLine; rw [sizeLine_eq]; decide)
  obtain ⟨t, ht, _, _⟩ := hm.there
  refine init_ok D (by have := hA.depth; show A.depth + 1 < _; omega) (fun b o q => hm.keeps _ _ (hst b o q)) ht fun h2 tk2 dx K2 e2 => ⟨rfl, ex, t, dx, rfl, ?_, e2, ?_⟩
  · intro b o q
    refine K2 b o (fun z => ?_) (hm.keeps _ _ (hst b o q))
    have := hst b o q
    rw [z, hm.new] at this
    cases this
  · refine hE h2 ex tk2 ⟨fun b o q => K2 b o (fun z => ?_) (hm.keeps _ _ q), hm.new, _, _, .ref t, e2, rfl, rfl, rfl, rfl⟩
    rw [z, hm.new] at q
    cases q
end Mine

end

-- Snd13
section
open PySem PySem.W PyProof.Rows PySem.Calls
namespace Mine
set_option maxRecDepth 100000

structure CallText (params : Arguments) (body : List Stmt) (scope : Scope) (sl : List Str) : Prop where
  kind : scope.kind = .function
  gen : scope.isGenerator = false
  cor : scope.isCoroutine = false
  cell : ∀ x ∈ scope.names, x.2 ≠ .cell
  nodup : sl.Nodup
  loc : ∀ x ∈ sl, scope.names.lookup x = some .local
  bind : ∀ (name : Str) (pm cd doc : Value) (args : List Value), args.length = sl.length → bindArgs (Calls.docDef name params body scope pm cd doc) ⟨args, []⟩ = pure (sl.zip args)

structure TryText (g : Nat) (body : List Stmt) (scope : Scope) (x : Str) : Prop where
  body : ∃ fx p1 p2 p3 p4 bx p5 kk p6 p7 p8 p9, body = [.Try [.Return (some (.Call (.Name fx p1) [.Name x p2] [] p3)) p4] [.ExceptHandler (some (.Name bx p5)) none [.Return (some (.Constant (.str tBad) kk p6)) p7] p8] [] [] p9] ∧
    fx = nameOf g ∧ bx = Str.ofString "BadRow" ∧ scope.names.lookup fx = some .globalImplicit ∧ scope.names.lookup bx = some .globalImplicit ∧ (fx == ("__debug__" : Str)) = false
  dx : (x == ("__debug__" : Str)) = false

section
variable {c : Cx} {N : Nat}

noncomputable def tryOf (r : Out) : Out := match r with
  | .ok v k => .ok v k
  | .exc k => .ok (.d (.str tBad)) k
  | .bad => .bad

theorem call_try (hc : Top0 c) (D : BadF c) {call : Nat → List V → Nat → Out} (hcall : CallOk c call N) {f g : Nat} (hg : Nat.blt g 29 = true) {params : Arguments} {body : List Stmt} {scope : Scope} {x : Str} (T : CallText params body scope [x]) (T' : TryText g body scope x) (O : FnObj c f params body scope)
    {fa : Addr} {d : PyData} {k : Nat} {A : Around} {fs : List Env} {s : Shared} {args : List Value} {Q E : Value → Shared → Prop} (hat : FnAt c f fa) (hA : Ar c A (N + 1) fs) (hff : s.heap.FunFrames c.g fs) (hb : c.g.StaysIn s.heap) (hrow : RowAt c s.heap k)
    (hv : VRs c s.heap args [.d d]) (p : PostE c fs s (tryOf (call g [.d d] k)) Q E) : wpAny (model c.prog c.w) A (PySem.call (.ref fa) args) Q E s := by
  have hlen' : args.length = [x].length := VRs.length hv
  obtain ⟨a, o, nm, pm, cd, doc, h1, h2, h3, h4⟩ := O.ob
  have : a = fa := by
    have := h1.symm.trans hat.bound
    injection this with this
    injection this
  subst this
  obtain ⟨fx, p1, p2, p3, p4, bx, p5, kk, p6, p7, p8, p9, rfl, rfl, rfl, lf, lb, df⟩ := T'.body
  refine wpAny_call (call_plain (by have := hA.depth; omega) (hb _ _ h2) h3 (D.lim.keeps hb) (h4.keeps hb) (T.bind nm pm cd doc args hlen') (fun y hy => T.loc y.1 (List.of_mem_zip (a := y.1) (b := y.2) hy).1) (fun h₁ F => ?_) T.cor T.gen T.kind T.cell)
  have hA' : Ar c (A.deeper (envOf nm scope s.heap.objs.size a cd)) N (envOf nm scope s.heap.objs.size a cd :: fs) := hA.in hff hrow
  have hF' : Fm c [x] (envOf nm scope s.heap.objs.size a cd :: fs) s.heap.objs.size (pad 1 [.d d]) h₁ k := Fm.new T.kind T.nodup hA hff hb hrow hv F
  have hck : CkE scope [x] (.call g (.cons (.loc 0) .nil)) (.Call (.Name (nameOf g) p1) [.Name x p2] [] p3) := .call rfl hg lf df (.cons (.loc rfl (T.loc x (.head _)) T'.dx) .nil)
  refine wpAny_execs_cons (wpAny_Try_except (wpAny_execs_cons (wpAny_Return_some ((snd hc hcall T.kind hck).1 _ _ _ k _ _ hA' hF' ?_))))
  rw [show evE call (pad 1 [V.d d]) (.call g (.cons (.loc 0) .nil)) k = call g [.d d] k from rfl]
  revert p
  cases call g [.d d] k with
  | ok y k1 => exact fun p v h' tk' b1 b2 b3 b4 => p v h' tk' b1 b2 (keep_call F (b3.mono ra_exL)) b4
  | bad => exact fun p => p.elim
  | exc k1 =>
    intro p e h' tk' X
    obtain ⟨B, a0, x1, x2, x3, x4, x5⟩ := X
    refine wpAny_looks_onW (s := { s with heap := h', toks := tk' }) hA'.frames rfl x4 fun h₄ hheld₄ hsm₄ => ?_
    refine wpAny_landsW hheld₄ fun h₅ hheld hsm₅' => ?_
    have hb₅ : c.g.StaysIn h₅ := fun b o q => hheld.1 b o (x1 b o q)
    obtain ⟨ob, hob, hobc⟩ := hheld.there
    refine wpAny_handleBy_cons (codeAny_handlers_test (Calls.Name_function_global T.kind lb (Calls.loadGlobal_global (env := envOf nm scope s.heap.objs.size a cd) (hc.ns.keeps hb₅) D.mg ?_) (by decide +kernel))) (by intro q; cases q)
    refine wpAny_excMatches_sub_self (hb₅ _ _ (D.X _ _ D.hC)) hob hobc D.base (codeAny_handlers_suite ?_)
    refine lands_againW hheld fun h₆ hfl₆ hsm₆ => ?_
    refine wpAny_noRaise (wpAny_execs_cons (wpAny_Return_some (wpAny_Constant_str ?_)))
    have sm : h'.UpToSlots h₆ := (hsm₄.trans hsm₅').trans hsm₆
    refine p _ h₆ _ (fun b o q => hfl₆.1 b o (x1 b o q)) (RowAt.up (F := []) (ex := fun _ => False) (.of_keeps fun b o _ e => hfl₆.1 b o e) id x3) (keep_call F (scope := scope) (name := nm) (a := a) (cd := cd) fun b o n e => ⟨fun m => ?_, fun nf => hfl₆.1 b o (x2 b o (fun q => n (.inl q)) e nf)⟩) (vr_str _ _ (by decide +kernel))
    obtain ⟨sl, e2⟩ := (x5 b o (fun q => n (.inl q)) e).1 m
    obtain ⟨_, o', e', dd⟩ := hF'.ff.mem m
    rw [e] at e'
    cases e'
    obtain ⟨sl', e3⟩ := sm b _ e2 dd
    exact ⟨sl', e3⟩
end
end Mine

end

-- Snd14
section
open PySem PySem.W PyProof.Rows PySem.Calls
namespace Mine
set_option maxRecDepth 100000

structure NextText (body : List Stmt) (x : Str) : Prop where
  body : ∃ p1 p2 p3 p4 p5 p6 p7 kk p8 p9 p10 y, body = [.Return (some (.IfExp (.Compare (.Name x p1) [.NotEq] [.List [] p2] p3) (.Call (.Attribute (.Name x p4) y p5) [] [] p6) (.Constant (.int 0) kk p8) p9)) p10] ∧
    y = Str.ofString "pop" ∧ MethEq (.Name x p4) y p5 [] p6 ∧ p7 = p6
  dx : (x == ("__debug__" : Str)) = false

noncomputable def drawOf (R : List Int) (k : Nat) : Int := R.reverse.getD k 0

theorem draw_nil {R : List Int} {k : Nat} (h : R.take (R.length - k) = []) : drawOf R k = 0 := by
  have : R.length ≤ k := by
    rcases R with _ | ⟨a, r⟩
    · exact Nat.zero_le _
    · rcases Nat.lt_or_ge k (a :: r).length with q | q
      · have z := congrArg List.length h
        rw [List.length_take] at z
        simp only [List.length_nil] at z
        omega
      · exact q
  unfold drawOf
  rw [List.getD_eq_getElem?_getD, List.getElem?_eq_none (by rw [List.length_reverse]; exact this)]
  rfl
theorem draw_snoc {R ys : List Int} {z : Int} {k : Nat} (h : R.take (R.length - k) = ys ++ [z]) : drawOf R k = z ∧ R.take (R.length - (k + 1)) = ys := by
  have hl := congrArg List.length h
  rw [List.length_take, List.length_append, List.length_singleton] at hl
  have hk : k < R.length := by omega
  have hy : ys.length = R.length - k - 1 := by omega
  constructor
  · unfold drawOf
    rw [List.getD_eq_getElem?_getD, List.getElem?_reverse hk]
    have : (R.take (R.length - k))[ys.length]? = some z := by rw [h, List.getElem?_append_right (Nat.le_refl _), Nat.sub_self]; rfl
    rw [List.getElem?_take] at this
    rw [if_pos (by omega)] at this
    rw [show R.length - 1 - k = ys.length by omega, this]
    rfl
  · have := congrArg (List.take ys.length) h
    rw [List.take_take, List.take_left'] at this
    · rw [show R.length - (k + 1) = min ys.length (R.length - k) by omega, this]
    · rfl
theorem draw_end {R : List Int} {k : Nat} (h : R.take (R.length - k) = []) : R.take (R.length - (k + 1)) = [] := by
  have := congrArg (List.take (R.length - (k + 1))) h
  rw [List.take_take, List.take_nil] at this
  rw [show R.length - (k + 1) = min (R.length - (k + 1)) (R.length - k) by omega, this]

theorem lay_ints : ∀ xs : List Int, PyData.canLayAll0 (xs.map PyData.int) = true
  | [] => rfl
  | _ :: r => by rw [List.map_cons, PyData.canLayAll0, lay_ints r]; rfl

section
variable {c : Cx} {N : Nat}

theorem call_next (hc : Top0 c) (hlim : c.g.NoLimit) {call : Nat → List V → Nat → Out} (hcall : CallOk c call N) {f : Nat} {params : Arguments} {body : List Stmt} {scope : Scope} {x : Str} (T : CallText params body scope [x]) (T' : NextText body x) (O : FnObj c f params body scope)
    (hra : c.g.get? c.ra = none) (hR : c.R.length ≤ 4000)
    {fa : Addr} {k : Nat} {A : Around} {fs : List Env} {s : Shared} {args : List Value} {Q E : Value → Shared → Prop} (hat : FnAt c f fa) (hA : Ar c A (N + 1) fs) (hff : s.heap.FunFrames c.g fs) (hb : c.g.StaysIn s.heap) (hrow : RowAt c s.heap k)
    (hv : VRs c s.heap args [.row]) (p : PostE c fs s (.ok (.d (.int (drawOf c.R k))) (k + 1)) Q E) : wpAny (model c.prog c.w) A (PySem.call (.ref fa) args) Q E s := by
  have hlen' : args.length = [x].length := VRs.length hv
  obtain ⟨a, o, nm, pm, cd, doc, h1, h2, h3, h4⟩ := O.ob
  have : a = fa := by
    have := h1.symm.trans hat.bound
    injection this with this
    injection this
  subst this
  obtain ⟨p1, p2, p3, p4, p5, p6, p7, kk, p8, p9, p10, y, rfl, rfl, hM, rfl⟩ := T'.body
  refine wpAny_call (call_plain (by have := hA.depth; omega) (hb _ _ h2) h3 (hlim.keeps hb) (h4.keeps hb) (T.bind nm pm cd doc args hlen') (fun y hy => T.loc y.1 (List.of_mem_zip (a := y.1) (b := y.2) hy).1) (fun h₁ F => ?_) T.cor T.gen T.kind T.cell)
  have hA' : Ar c (A.deeper (envOf nm scope s.heap.objs.size a cd)) N (envOf nm scope s.heap.objs.size a cd :: fs) := hA.in hff hrow
  have hF' : Fm c [x] (envOf nm scope s.heap.objs.size a cd :: fs) s.heap.objs.size (pad 1 [.row]) h₁ k := Fm.new T.kind T.nodup hA hff hb hrow hv F
  have hx : ∀ {q}, CkE scope [x] (.loc 0) (.Name x q) := .loc rfl (T.loc x (.head _)) T'.dx
  have hl : CkE scope [x] (.lst .nil) (.List [] p2) := .lst rfl .nil
  refine wpAny_execs_cons (wpAny_Return_some (wpAny_IfExp (wpAny_isTrue_Compare1 ?_ rfl)))
  refine (snd hc hcall T.kind hx).1 _ _ _ k _ _ hA' hF' ?_
  rw [show evE call (pad 1 [V.row]) (.loc 0) k = .ok .row k from rfl]
  intro v h1' tk1 b1 r1 K1 hv1
  have B1 : Bh c (envOf nm scope s.heap.objs.size a cd :: fs) { s with heap := h₁, toks := s.toks + ([x].zip args).length } h1' k := ⟨b1, r1, K1⟩
  have hF1 := hF'.up B1
  refine (snd hc hcall T.kind hl).1 _ _ _ k _ _ hA' hF1 ?_
  rw [show evE call (pad 1 [V.row]) (.lst .nil) k = .ok (.d (.list [])) k from rfl]
  intro u h2' tk2 b2 r2 K2 hu
  have hF2 := hF1.up (s := { s with heap := h1' }) ⟨b2, r2, K2⟩
  obtain rfl : v = .ref c.ra := hv1
  obtain ⟨as, hur, hul, _⟩ := hu
  obtain ⟨vs, ob, n, e, ec, en, ed, es, ei⟩ := id r2
  have hrd : Reads h2' (.ref c.ra) (.list ((c.R.take (c.R.length - k)).map PyData.int)) (c.ra :: []) := .list e ec ed (IntsAre.reads _ ei)
  have hKK : ∀ {h3 k3}, RowAt c h3 k3 → c.g.StaysIn h3 → Keep (frs (envOf nm scope s.heap.objs.size a cd :: fs)) (· = c.ra) h2' h3 → ∀ {z tk3}, VR c h3 z (.d (.int (drawOf c.R k))) → k3 = k + 1 → Q z { s with heap := h3, toks := tk3 } := fun q1 q2 q3 z tk3 hz hk => by
    subst hk
    exact p z _ tk3 q2 q1 (keep_call F (((K1.trans K2).trans q3).mono ra_exL)) hz
  refine PySem.SeqAt.compareNe_reads hrd hur (by rw [PyData.canLay0]; exact lay_ints _) hul ?_ (wpAny_truthy_bool ?_)
  · have := hA'.units
    have h0 : (PyData.list []).depth ≤ 1 := by simp [PyData.depth, PyData.depthAll]
    have := Nat.min_le_right (PyData.list ((c.R.take (c.R.length - k)).map PyData.int)).depth (PyData.list []).depth
    omega
  · rcases ints_nil_or_snoc (its := vs.toArray) ei with ⟨e1, e2⟩ | ⟨jts, ys, z, t, e1, e2, e3⟩
    · rw [e2]
      show wpAny _ _ (eval (.Constant (.int 0) kk p8) _) _ _ _
      refine wpAny_Constant_int ?_
      refine hKK (k3 := k + 1) ⟨vs, ob, n, e, ec, en, ed, es, ?_⟩ b2 Keep.refl ?_ rfl
      · rw [draw_end e2, ← e2]; exact ei
      · rw [draw_nil e2]; exact vr_int _ _
    · obtain ⟨d1, d2⟩ := draw_snoc e2
      rw [e2]
      have hne : (!PyData.eqv (.list ((ys ++ [z]).map PyData.int)) (.list [])) = true := by
        cases ys <;> rfl
      rw [hne, if_pos rfl]
      obtain ⟨pl, hpl⟩ := hM (envOf nm scope s.heap.objs.size a cd)
      refine MethodCall_ (pl := pl) ?_ hpl
      refine (snd hc hcall T.kind hx).1 _ _ _ k _ _ hA' hF2 ?_
      rw [show evE call (pad 1 [V.row]) (.loc 0) k = .ok .row k from rfl]
      intro v h3' tk3 b3 r3 K3 hv3
      obtain rfl : v = .ref c.ra := hv3
      have hF3 := hF2.up (s := { s with heap := h2' }) ⟨b3, r3, K3⟩
      obtain ⟨vs3, ⟨oc, od, odd, osl⟩, n3, eo, ec3, en3, ed3, es3, ei3⟩ := id r3
      obtain rfl : oc = _ := ec3
      obtain rfl : od = _ := en3
      obtain rfl : odd = _ := ed3
      obtain rfl : osl = _ := es3
      have hIs : h3'.IsList c.ra vs3.toArray := ⟨_, eo, rfl, n3, rfl⟩
      have hI : PySem.IsL h3' c.ra vs3.toArray n3 := eo
      refine getMethod_list_of PySem.F.slot_list_pop PySem.F.type_list_pop hIs ⟨_, eo, rfl⟩ ?_
      show wpAny _ _ (callWith p7 (.builtin "list.pop") [.ref c.ra] [] []) _ _ _
      rcases ints_nil_or_snoc (its := vs3.toArray) ei3 with ⟨f1, f2⟩ | ⟨jts, ys', z', t, f1, f2, f3⟩
      · rw [e2] at f2
        cases ys <;> cases f2
      · have hz : z' = z ∧ ys' = ys := by
          rw [e2] at f2
          have := List.append_inj' f2 rfl
          exact ⟨by have := this.2; cases this; rfl, this.1.symm⟩
        obtain ⟨rfl, rfl⟩ := hz
        have hsz : vs3.toArray.size ≤ 4000 := by
          rw [List.size_toArray, IntsAre.length ei3, List.length_take]
          omega
        have hlast : vs3.toArray[vs3.toArray.size - 1]? = some (.int z' t) := by
          rw [f1, Array.size_push, Nat.add_sub_cancel, Array.getElem?_push_size]
        refine PySem.P.pop_list hI hlast ?_ (by rw [sizeLine_eq]; omega)
        have her : vs3.toArray.eraseIdxIfInBounds (vs3.toArray.size - 1) = jts := by
          rw [f1, Array.size_push, Nat.add_sub_cancel]
          unfold Array.eraseIdxIfInBounds
          rw [dif_pos (by rw [Array.size_push]; exact Nat.lt_succ_self _)]
          apply Array.toList_inj.mp
          rw [Array.toList_eraseIdx, Array.toList_push, List.eraseIdx_append_of_length_le (by simp)]
          simp
        have hup := hI.update fun xs => xs.eraseIdxIfInBounds (vs3.toArray.size - 1)
        simp only [her] at hup
        have hoth : ∀ b o, b ≠ c.ra → h3'.get? b = some o → (h3'.update c.ra (Obj.mapSeq fun xs => xs.eraseIdxIfInBounds (vs3.toArray.size - 1))).get? b = some o := fun b o n e => (Heap.get?_update_ne _ _ _ _ n).trans e
        refine hKK (k3 := k + 1) ⟨jts.toList, _, _, by rw [hup], rfl, rfl, rfl, rfl, ?_⟩ (fun b o q => hoth b o (fun z => by rw [z, hra] at q; cases q) (b3 b o q)) (K3.trans (.of_keeps hoth)) ?_ rfl
        · rw [d2]; exact f3
        · rw [d1]; exact vr_int _ _
end
end Mine

end

-- Snd15
section
open PySem PySem.W PyProof.Rows PySem.Calls
namespace Mine
set_option maxRecDepth 100000

structure Texts (c : Cx) : Prop where
  next : ∃ params body scope x, CallText params body scope [x] ∧ NextText body x ∧ FnObj c 0 params body scope
  enc : ∃ params body scope x, CallText params body scope [x] ∧ TryText 3 body scope x ∧ FnObj c 1 params body scope
  dec : ∃ params body scope x, CallText params body scope [x] ∧ TryText 4 body scope x ∧ FnObj c 2 params body scope
  tab : ∀ f fn, tab f = some fn → ∃ params body scope sl, FnText fn params body scope sl ∧ FnObj c f params body scope

theorem app_none (c : Cx) (δ : Nat → Int) : ∀ n, AppOk c (evF δ tab n)
  | 0 => fun _ _ _ _ e => by cases e
  | _ + 1 => fun _ _ _ _ e => by cases e

theorem vrs_d {c : Cx} {h : Heap} : ∀ {args : List Value} {vs : List V}, VRs c h args vs → vs = vs := fun _ => rfl

theorem call_all {c : Cx} (hc : Top0 c) (D : BadF c) (T : Texts c) (hra : c.g.get? c.ra = none) (hR : c.R.length ≤ 4000) : ∀ n, CallOk c (evF (drawOf c.R) tab n) n
  | 0 => by
    intro f fa vs k A fs s args Q E _ _ _ _ _ _ _ p
    exact p.elim
  | n + 1 => by
    intro f fa vs k A fs s args Q E _ hat hA hff hb hrow hv p
    have ih := call_all hc D T hra hR n
    have hlim := D.lim
    match f, hat, p with
    | 0, hat, p =>
      obtain ⟨params, body, scope, x, T1, T2, O⟩ := T.next
      match vs, hv, p with
      | [.row], hv, p => exact call_next hc hlim ih T1 T2 O hra hR hat hA hff hb hrow hv p
      | [], _, p => exact p.elim
      | [.un], _, p => exact p.elim
      | [.d _], _, p => exact p.elim
      | .un :: _ :: _, _, p => exact p.elim
      | .row :: _ :: _, _, p => exact p.elim
      | .d _ :: _ :: _, _, p => exact p.elim
    | 1, hat, p =>
      obtain ⟨params, body, scope, x, T1, T2, O⟩ := T.enc
      match vs, hv, p with
      | [.d d], hv, p =>
        refine call_try hc D ih (g := 3) rfl T1 T2 O hat hA hff hb hrow hv ?_
        revert p
        rw [evF]
        unfold tryOf
        cases evF (drawOf c.R) tab n 3 [.d d] k <;> exact id
      | [], _, p => exact p.elim
      | [.un], _, p => exact p.elim
      | [.row], _, p => exact p.elim
      | .un :: _ :: _, _, p => exact p.elim
      | .row :: _ :: _, _, p => exact p.elim
      | .d _ :: _ :: _, _, p => exact p.elim
    | 2, hat, p =>
      obtain ⟨params, body, scope, x, T1, T2, O⟩ := T.dec
      match vs, hv, p with
      | [.d d], hv, p =>
        refine call_try hc D ih (g := 4) rfl T1 T2 O hat hA hff hb hrow hv ?_
        revert p
        rw [evF]
        unfold tryOf
        cases evF (drawOf c.R) tab n 4 [.d d] k <;> exact id
      | [], _, p => exact p.elim
      | [.un], _, p => exact p.elim
      | [.row], _, p => exact p.elim
      | .un :: _ :: _, _, p => exact p.elim
      | .row :: _ :: _, _, p => exact p.elim
      | .d _ :: _ :: _, _, p => exact p.elim
    | f + 3, hat, p =>
      cases e : tab (f + 3) with
      | none =>
        exfalso
        revert p
        simp only [evF, e]
        exact id
      | some fn =>
        obtain ⟨params, body, scope, sl, T1, O⟩ := T.tab _ fn e
        refine call_body hc hlim ih (raise_ok hc D) (app_none c _ n) T1 O hat hA hff hb hrow hv ?_
        revert p
        unfold bodyOf
        simp only [evF, e]
        cases Nat.beq vs.length fn.arity with
        | false => exact id
        | true =>
          dsimp only
          cases exSs (evF (drawOf c.R) tab n) fn.body (pad fn.slots vs) k <;> exact id

/-- the law's own text, behind the draws -/
theorem law_run {c : Cx} (hc : Top0 c) (D : BadF c) (T : Texts c) (hra : c.g.get? c.ra = none) (hR : c.R.length ≤ 4000) {n : Nat} {sc : Scope} {sl : List Str} {name : Str} {L a : Addr} {cd : Value} {t : List Stmt} (hk : sc.kind = .function) (hnd : sl.Nodup) (ck : CkSs sc sl b_law t)
    {ρ : List V} {A : Around} {fs : List Env} {s : Shared} {k : Nat} {b : Bool} {Q : Flow → Shared → Prop} {E : Value → Shared → Prop} (hA : Ar c A n fs) (hL : L ∈ frs fs) (hF : Fm c sl fs L ρ s.heap 0)
    (he : exSs (evF (drawOf c.R) tab n) b_law ρ 0 = .ret (.d (.bool b)) k) (hQ : ∀ h' tk', c.g.StaysIn h' → Keep (frs fs) (exL c L) s.heap h' → Q (.ret (.bool b)) { s with heap := h', toks := tk' }) :
    wpAny (model c.prog c.w) A (execs t (envOf name sc L a cd)) Q E s := by
  refine sndSs hc (call_all hc D T hra hR n) (raise_ok hc D) (app_none c _ n) hk hnd ck ρ A fs s 0 Q E hA hL hF ?_
  rw [he]
  intro v h' tk' b1 _ K hv
  obtain ⟨as, hr, _, _⟩ := hv
  cases hr
  exact hQ h' tk' b1 K
end Mine

end

-- HD
section
open PySem PySem.W PyProof.Rows
set_option maxRecDepth 100000
set_option maxHeartbeats 8000000
namespace Mine
noncomputable abbrev pg : Program := PySem.Challenge.rw_pb0328_01.prog
/-- the statements that the walk reads: all but the three that name a file -/
noncomputable def keepL : List Nat := [1, 2, 4, 5, 6, 7, 8, 9, 10, 11, 12, 13, 14, 15, 16, 17, 18, 19, 20, 21, 23, 24, 25, 26, 27, 28, 29, 30, 31, 32, 33, 34]
noncomputable def vw : Program := view pg keepL
/-- the parts of the own exception's first method -/
noncomputable def badInit : Arguments × List Stmt × Scope := match pg.main.body with
  | _ :: _ :: Stmt.ClassDef _ _ _ (Stmt.FunctionDef _ a b _ _ _ s _ _ _ :: _) _ _ _ _ _ _ _ :: _ => (a, b, s)
  | _ => (⟨[], [], none, [], [], none, []⟩, [], ⟨.function, [], false, false, []⟩)
noncomputable def ent (P : Params) (x : String) (t : Nat) (v : Value) : DictEntry := { hash := PyData.keyHash P (Str.ofString x), key := .str (Str.ofString x) t, val := v }
noncomputable def tx (x : String) (t : Nat) : Value := .str (Str.ofString x) t
noncomputable def o23 (P : Params) : Obj := { cls := .type "dict", data := .dict #[ent P "__module__" 196 (tx "moduleyard.errors" 187), ent P "__firstlineno__" 200 (.int 2 199), ent P "__static_attributes__" 201 (.ref 22), ent P "__weakref__" 203 (.ref 25), ent P "__doc__" 204 .none] 3 }
noncomputable def o24 : Obj := { cls := .type "type", data := .cls { name := Str.ofString "YardError", bases := [.type "Exception"], mro := [.ref 24, .type "Exception", .type "BaseException", .type "object"], ns := 23, qualname := Str.ofString "YardError", subclasses := [.ref 44] }, slots := #[some (.ref 15), none, some (tx "YardError" 189), some (tx "YardError" 197), some (.builtin "Exception.__new__"), some (.bool true)] }
noncomputable def o40 : Obj := { cls := .type "code", data := .fields #[tx "__init__" 221, tx "BadRow.__init__" 222, tx "/claim/cut.py" 223, .int 6 0, .int 2 0, .int 0 0, .int 0 0, .int 3 0, .ref 35, .bool true, .int 181 0, .ref 36, .none, .ref 37, .ref 38, .ref 39, .int 226 0, .int 6 0, tx "/claim/cut.py" 227] }
noncomputable def o41 : Obj := { cls := .type "function", data := .func { name := Str.ofString "__init__", qualname := Str.ofString "BadRow.__init__", params := badInit.1, body := .stmts badInit.2.1, scope := badInit.2.2, globals := 3, closure := [], defaults := .none, kwdefaults := .none, pyModule := tx "moduleyard.errors" 187, code := .ref 40 } }
noncomputable def o43 (P : Params) : Obj := { cls := .type "dict", data := .dict #[ent P "__module__" 216 (tx "moduleyard.errors" 187), ent P "__firstlineno__" 220 (.int 4 219), ent P "__init__" 228 (.ref 41), ent P "__static_attributes__" 230 (.ref 42), ent P "__doc__" 231 .none] 2 }
noncomputable def o44 : Obj := { cls := .type "type", data := .cls { name := Str.ofString "BadRow", bases := [.ref 24], mro := [.ref 44, .ref 24, .type "Exception", .type "BaseException", .type "object"], ns := 43, qualname := Str.ofString "BadRow" }, slots := #[some (.ref 28), none, some (tx "BadRow" 209), some (tx "BadRow" 217), some (.builtin "Exception.__new__"), some (.bool true)] }
noncomputable def fr (P : Params) : Frag := [(23, o23 P), (24, o24), (40, o40), (41, o41), (43, o43 P), (44, o44)]
noncomputable def frAt : List Addr := [23, 24, 40, 41, 43, 44]
noncomputable def nBad : Str := Str.ofString "BadRow"
noncomputable def biNames : List Str := [Str.ofString "isinstance", Str.ofString "int", Str.ofString "bool", Str.ofString "str", Str.ofString "tuple", Str.ofString "len", Str.ofString "range"]
theorem nsMap_keeps {h h' : Heap} {a : Addr} {x : Str} {v : Value} (e : h.nsMap a x = some v) (k : ∀ b o, h.get? b = some o → h'.get? b = some o) : h'.nsMap a = h.nsMap a := by
  funext y
  unfold Heap.nsMap at e ⊢
  cases q : h.get? a with
  | none => rw [q] at e; cases e
  | some o => rw [k _ _ q]
/-- what the walk takes from the top beside the library's own looks -/
structure Says (P : Params) (h : Heap) (mg : Str → Option Value) : Prop where
  inK : (fr P).In h
  bad : mg nBad = some (.ref 44)
  no : ∀ x ∈ biNames, mg x = none
noncomputable def hook : Hook where
  α := List (Option Obj) × Option Value × List (Option Value)
  obs s := (frAt.map s.heap.get?, s.heap.nsMap mainGlobals nBad, biNames.map (s.heap.nsMap mainGlobals))
  val w := ((fr w.params).map fun p => some p.2, some (.ref 44), biNames.map fun _ => none)
  says w h := Says w.params h (h.nsMap mainGlobals)
  of w s e := ⟨Frag.in_of (rfl : frAt = (fr w.params).map (·.1)) (Prod.mk.inj e).1, (Prod.mk.inj (Prod.mk.inj e).2).1, List.map_inj_left.mp (Prod.mk.inj (Prod.mk.inj e).2).2⟩
  keeps w h h' x k := by
    have e := nsMap_keeps x.bad k
    exact ⟨Frag.In.keeps x.inK k, by rw [e]; exact x.bad, by rw [e]; exact x.no⟩
noncomputable abbrev rwW : RowW := PySem.Challenge.rw_pb0328_01.row.toRowW
-- the top runs through: one check by the kernel; the library's own quick twins of its functions stand for them
theorem left_ok : LeftO PySem.Challenge.rw_pb0328_01.row.prog vw [] (fun s => xlAt vw [] s && recOk (RowW.records rwW) s) hook.obs hook.val 2946 := fun w => by
  unfold openEnds fencedOpening topFrom
  rw [PySem.W.Fast.te14082659384304107361, PySem.W.Fast.te10274390034422433532, PySem.W.Fast.te14289696077712309145, PySem.W.Fast.te4187177175401517315, PySem.W.Fast.te1435165496053646825, PySem.W.Fast.te14364793385576792824]
  kernel_rfl
theorem said_row : PySem.Challenge.rw_pb0328_01.row.wellSaid = true := by
  rw [PySem.W.Fast.te17960256430627541270]
  kernel_rfl
theorem said_ok : PySem.Challenge.rw_pb0328_01.wellSaid = true := by
  unfold OpenLaw.wellSaid
  rw [said_row]
  kernel_rfl
noncomputable def recs : List DefRec := pg.main.body.filterMap fun st => match st with
  | Stmt.FunctionDef n a b _ _ _ s _ _ pos => some ⟨n, a, b, s, pos⟩
  | _ => none
theorem recs_eq : recsOf vw = recs := by
  rw [PySem.W.Fast.te3399658132070893891]
  kernel_rfl
theorem rec_mem {k : Nat} {d : DefRec} (h : recs[k]? = some d) : d ∈ recsOf vw := by
  rw [recs_eq]
  exact List.mem_of_getElem? h
end Mine

end

-- Tx1
section
open PySem PySem.W PyProof.Rows PySem.Calls
namespace Mine
set_option maxRecDepth 100000
set_option maxHeartbeats 4000000

structure TabText (f : Nat) (fn : Fn) : Prop where
  ob : ∃ (i : Nat) (name : Str) (params : Arguments) (body : List Stmt) (scope : Scope) (pos : Pos), recs[i]? = some (DefRec.mk name params body scope pos) ∧ name = nameOf f ∧ FnText fn params body scope (slotsOf f)

theorem tx_3 : TabText 3 ⟨1, 4, b_encode⟩ := by
  refine ⟨13, _, _, _, _, _, rfl, rfl, ?_⟩
  refine ⟨rfl, rfl, rfl, by decide, by decide +kernel, ?_, ?_, ?_⟩
  · intro i x hi hx
    match i, hi with
    | 0, _ => cases hx; rfl
  · intro name pm cd doc args hl
    match args, hl with
    | [a], _ => rfl
  · unfold b_encode
    repeat' constructor
    all_goals first | rfl | kernel_rfl | exact fun _ => ⟨_, rfl⟩ | exact fun _ _ => rfl
theorem tx_4 : TabText 4 ⟨1, 3, b_decode⟩ := by
  refine ⟨17, _, _, _, _, _, rfl, rfl, ?_⟩
  refine ⟨rfl, rfl, rfl, by decide, by decide +kernel, ?_, ?_, ?_⟩
  · intro i x hi hx
    match i, hi with
    | 0, _ => cases hx; rfl
  · intro name pm cd doc args hl
    match args, hl with
    | [a], _ => rfl
  · unfold b_decode
    repeat' constructor
    all_goals first | rfl | kernel_rfl | exact fun _ => ⟨_, rfl⟩ | exact fun _ _ => rfl
theorem tx_5 : TabText 5 ⟨0, 0, b_conditions⟩ := by
  refine ⟨0, _, _, _, _, _, rfl, rfl, ?_⟩
  refine ⟨rfl, rfl, rfl, by decide, by decide +kernel, ?_, ?_, ?_⟩
  · intro i x hi hx
    exact absurd hi (Nat.not_lt_zero _)
  · intro name pm cd doc args hl
    match args, hl with
    | [], _ => rfl
  · unfold b_conditions
    repeat' constructor
    all_goals first | rfl | kernel_rfl | exact fun _ => ⟨_, rfl⟩ | exact fun _ _ => rfl
theorem tx_6 : TabText 6 ⟨1, 2, b_negate⟩ := by
  refine ⟨1, _, _, _, _, _, rfl, rfl, ?_⟩
  refine ⟨rfl, rfl, rfl, by decide, by decide +kernel, ?_, ?_, ?_⟩
  · intro i x hi hx
    match i, hi with
    | 0, _ => cases hx; rfl
  · intro name pm cd doc args hl
    match args, hl with
    | [a], _ => rfl
  · unfold b_negate
    repeat' constructor
    all_goals first | rfl | kernel_rfl | exact fun _ => ⟨_, rfl⟩ | exact fun _ _ => rfl
theorem tx_7 : TabText 7 ⟨0, 0, b_operations⟩ := by
  refine ⟨2, _, _, _, _, _, rfl, rfl, ?_⟩
  refine ⟨rfl, rfl, rfl, by decide, by decide +kernel, ?_, ?_, ?_⟩
  · intro i x hi hx
    exact absurd hi (Nat.not_lt_zero _)
  · intro name pm cd doc args hl
    match args, hl with
    | [], _ => rfl
  · unfold b_operations
    repeat' constructor
    all_goals first | rfl | kernel_rfl | exact fun _ => ⟨_, rfl⟩ | exact fun _ _ => rfl
theorem tx_8 : TabText 8 ⟨0, 0, b_memory_names⟩ := by
  refine ⟨3, _, _, _, _, _, rfl, rfl, ?_⟩
  refine ⟨rfl, rfl, rfl, by decide, by decide +kernel, ?_, ?_, ?_⟩
  · intro i x hi hx
    exact absurd hi (Nat.not_lt_zero _)
  · intro name pm cd doc args hl
    match args, hl with
    | [], _ => rfl
  · unfold b_memory_names
    repeat' constructor
    all_goals first | rfl | kernel_rfl | exact fun _ => ⟨_, rfl⟩ | exact fun _ _ => rfl
theorem tx_9 : TabText 9 ⟨3, 3, b_is_whole⟩ := by
  refine ⟨4, _, _, _, _, _, rfl, rfl, ?_⟩
  refine ⟨rfl, rfl, rfl, by decide, by decide +kernel, ?_, ?_, ?_⟩
  · intro i x hi hx
    match i, hi with
    | 0, _ => cases hx; rfl
    | 1, _ => cases hx; rfl
    | 2, _ => cases hx; rfl
  · intro name pm cd doc args hl
    match args, hl with
    | [a, b, c], _ => rfl
  · unfold b_is_whole
    repeat' constructor
    all_goals first | rfl | kernel_rfl | exact fun _ => ⟨_, rfl⟩ | exact fun _ _ => rfl
theorem tx_10 : TabText 10 ⟨1, 1, b_is_register⟩ := by
  refine ⟨5, _, _, _, _, _, rfl, rfl, ?_⟩
  refine ⟨rfl, rfl, rfl, by decide, by decide +kernel, ?_, ?_, ?_⟩
  · intro i x hi hx
    match i, hi with
    | 0, _ => cases hx; rfl
  · intro name pm cd doc args hl
    match args, hl with
    | [a], _ => rfl
  · unfold b_is_register
    repeat' constructor
    all_goals first | rfl | kernel_rfl | exact fun _ => ⟨_, rfl⟩ | exact fun _ _ => rfl
theorem tx_11 : TabText 11 ⟨1, 1, b_immediate_operation⟩ := by
  refine ⟨6, _, _, _, _, _, rfl, rfl, ?_⟩
  refine ⟨rfl, rfl, rfl, by decide, by decide +kernel, ?_, ?_, ?_⟩
  · intro i x hi hx
    match i, hi with
    | 0, _ => cases hx; rfl
  · intro name pm cd doc args hl
    match args, hl with
    | [a], _ => rfl
  · unfold b_immediate_operation
    repeat' constructor
    all_goals first | rfl | kernel_rfl | exact fun _ => ⟨_, rfl⟩ | exact fun _ _ => rfl
theorem tx_12 : TabText 12 ⟨1, 5, b_operation_fault⟩ := by
  refine ⟨7, _, _, _, _, _, rfl, rfl, ?_⟩
  refine ⟨rfl, rfl, rfl, by decide, by decide +kernel, ?_, ?_, ?_⟩
  · intro i x hi hx
    match i, hi with
    | 0, _ => cases hx; rfl
  · intro name pm cd doc args hl
    match args, hl with
    | [a], _ => rfl
  · unfold b_operation_fault
    repeat' constructor
    all_goals first | rfl | kernel_rfl | exact fun _ => ⟨_, rfl⟩ | exact fun _ _ => rfl
theorem tx_13 : TabText 13 ⟨1, 1, b_memory_fault⟩ := by
  refine ⟨8, _, _, _, _, _, rfl, rfl, ?_⟩
  refine ⟨rfl, rfl, rfl, by decide, by decide +kernel, ?_, ?_, ?_⟩
  · intro i x hi hx
    match i, hi with
    | 0, _ => cases hx; rfl
  · intro name pm cd doc args hl
    match args, hl with
    | [a], _ => rfl
  · unfold b_memory_fault
    repeat' constructor
    all_goals first | rfl | kernel_rfl | exact fun _ => ⟨_, rfl⟩ | exact fun _ _ => rfl
theorem tx_14 : TabText 14 ⟨1, 5, b_branch_fault⟩ := by
  refine ⟨9, _, _, _, _, _, rfl, rfl, ?_⟩
  refine ⟨rfl, rfl, rfl, by decide, by decide +kernel, ?_, ?_, ?_⟩
  · intro i x hi hx
    match i, hi with
    | 0, _ => cases hx; rfl
  · intro name pm cd doc args hl
    match args, hl with
    | [a], _ => rfl
  · unfold b_branch_fault
    repeat' constructor
    all_goals first | rfl | kernel_rfl | exact fun _ => ⟨_, rfl⟩ | exact fun _ _ => rfl
theorem tx_15 : TabText 15 ⟨1, 2, b_row_fault⟩ := by
  refine ⟨10, _, _, _, _, _, rfl, rfl, ?_⟩
  refine ⟨rfl, rfl, rfl, by decide, by decide +kernel, ?_, ?_, ?_⟩
  · intro i x hi hx
    match i, hi with
    | 0, _ => cases hx; rfl
  · intro name pm cd doc args hl
    match args, hl with
    | [a], _ => rfl
  · unfold b_row_fault
    repeat' constructor
    all_goals first | rfl | kernel_rfl | exact fun _ => ⟨_, rfl⟩ | exact fun _ _ => rfl
theorem tx_16 : TabText 16 ⟨1, 6, b_operation_word⟩ := by
  refine ⟨11, _, _, _, _, _, rfl, rfl, ?_⟩
  refine ⟨rfl, rfl, rfl, by decide, by decide +kernel, ?_, ?_, ?_⟩
  · intro i x hi hx
    match i, hi with
    | 0, _ => cases hx; rfl
  · intro name pm cd doc args hl
    match args, hl with
    | [a], _ => rfl
  · unfold b_operation_word
    repeat' constructor
    all_goals first | rfl | kernel_rfl | exact fun _ => ⟨_, rfl⟩ | exact fun _ _ => rfl
theorem tx_17 : TabText 17 ⟨1, 6, b_branch_word⟩ := by
  refine ⟨12, _, _, _, _, _, rfl, rfl, ?_⟩
  refine ⟨rfl, rfl, rfl, by decide, by decide +kernel, ?_, ?_, ?_⟩
  · intro i x hi hx
    match i, hi with
    | 0, _ => cases hx; rfl
  · intro name pm cd doc args hl
    match args, hl with
    | [a], _ => rfl
  · unfold b_branch_word
    repeat' constructor
    all_goals first | rfl | kernel_rfl | exact fun _ => ⟨_, rfl⟩ | exact fun _ _ => rfl
theorem tx_18 : TabText 18 ⟨2, 2, b_signed⟩ := by
  refine ⟨14, _, _, _, _, _, rfl, rfl, ?_⟩
  refine ⟨rfl, rfl, rfl, by decide, by decide +kernel, ?_, ?_, ?_⟩
  · intro i x hi hx
    match i, hi with
    | 0, _ => cases hx; rfl
    | 1, _ => cases hx; rfl
  · intro name pm cd doc args hl
    match args, hl with
    | [a, b], _ => rfl
  · unfold b_signed
    repeat' constructor
    all_goals first | rfl | kernel_rfl | exact fun _ => ⟨_, rfl⟩ | exact fun _ _ => rfl
theorem tx_19 : TabText 19 ⟨1, 7, b_operation_row⟩ := by
  refine ⟨15, _, _, _, _, _, rfl, rfl, ?_⟩
  refine ⟨rfl, rfl, rfl, by decide, by decide +kernel, ?_, ?_, ?_⟩
  · intro i x hi hx
    match i, hi with
    | 0, _ => cases hx; rfl
  · intro name pm cd doc args hl
    match args, hl with
    | [a], _ => rfl
  · unfold b_operation_row
    repeat' constructor
    all_goals first | rfl | kernel_rfl | exact fun _ => ⟨_, rfl⟩ | exact fun _ _ => rfl
theorem tx_20 : TabText 20 ⟨1, 3, b_branch_row⟩ := by
  refine ⟨16, _, _, _, _, _, rfl, rfl, ?_⟩
  refine ⟨rfl, rfl, rfl, by decide, by decide +kernel, ?_, ?_, ?_⟩
  · intro i x hi hx
    match i, hi with
    | 0, _ => cases hx; rfl
  · intro name pm cd doc args hl
    match args, hl with
    | [a], _ => rfl
  · unfold b_branch_row
    repeat' constructor
    all_goals first | rfl | kernel_rfl | exact fun _ => ⟨_, rfl⟩ | exact fun _ _ => rfl
theorem tx_21 : TabText 21 ⟨0, 0, b_law_names⟩ := by
  refine ⟨20, _, _, _, _, _, rfl, rfl, ?_⟩
  refine ⟨rfl, rfl, rfl, by decide, by decide +kernel, ?_, ?_, ?_⟩
  · intro i x hi hx
    exact absurd hi (Nat.not_lt_zero _)
  · intro name pm cd doc args hl
    match args, hl with
    | [], _ => rfl
  · unfold b_law_names
    repeat' constructor
    all_goals first | rfl | kernel_rfl | exact fun _ => ⟨_, rfl⟩ | exact fun _ _ => rfl
theorem tx_22 : TabText 22 ⟨0, 0, b_law_conds⟩ := by
  refine ⟨21, _, _, _, _, _, rfl, rfl, ?_⟩
  refine ⟨rfl, rfl, rfl, by decide, by decide +kernel, ?_, ?_, ?_⟩
  · intro i x hi hx
    exact absurd hi (Nat.not_lt_zero _)
  · intro name pm cd doc args hl
    match args, hl with
    | [], _ => rfl
  · unfold b_law_conds
    repeat' constructor
    all_goals first | rfl | kernel_rfl | exact fun _ => ⟨_, rfl⟩ | exact fun _ _ => rfl
theorem tx_23 : TabText 23 ⟨3, 4, b_law_big⟩ := by
  refine ⟨22, _, _, _, _, _, rfl, rfl, ?_⟩
  refine ⟨rfl, rfl, rfl, by decide, by decide +kernel, ?_, ?_, ?_⟩
  · intro i x hi hx
    match i, hi with
    | 0, _ => cases hx; rfl
    | 1, _ => cases hx; rfl
    | 2, _ => cases hx; rfl
  · intro name pm cd doc args hl
    match args, hl with
    | [a, b, c], _ => rfl
  · unfold b_law_big
    repeat' constructor
    all_goals first | rfl | kernel_rfl | exact fun _ => ⟨_, rfl⟩ | exact fun _ _ => rfl
theorem tx_24 : TabText 24 ⟨1, 6, b_law_made⟩ := by
  refine ⟨23, _, _, _, _, _, rfl, rfl, ?_⟩
  refine ⟨rfl, rfl, rfl, by decide, by decide +kernel, ?_, ?_, ?_⟩
  · intro i x hi hx
    match i, hi with
    | 0, _ => cases hx; rfl
  · intro name pm cd doc args hl
    match args, hl with
    | [a], _ => rfl
  · unfold b_law_made
    repeat' constructor
    all_goals first | rfl | kernel_rfl | exact fun _ => ⟨_, rfl⟩ | exact fun _ _ => rfl
theorem tx_25 : TabText 25 ⟨1, 5, b_law_sound⟩ := by
  refine ⟨24, _, _, _, _, _, rfl, rfl, ?_⟩
  refine ⟨rfl, rfl, rfl, by decide, by decide +kernel, ?_, ?_, ?_⟩
  · intro i x hi hx
    match i, hi with
    | 0, _ => cases hx; rfl
  · intro name pm cd doc args hl
    match args, hl with
    | [a], _ => rfl
  · unfold b_law_sound
    repeat' constructor
    all_goals first | rfl | kernel_rfl | exact fun _ => ⟨_, rfl⟩ | exact fun _ _ => rfl
theorem tx_26 : TabText 26 ⟨1, 6, b_law_word⟩ := by
  refine ⟨25, _, _, _, _, _, rfl, rfl, ?_⟩
  refine ⟨rfl, rfl, rfl, by decide, by decide +kernel, ?_, ?_, ?_⟩
  · intro i x hi hx
    match i, hi with
    | 0, _ => cases hx; rfl
  · intro name pm cd doc args hl
    match args, hl with
    | [a], _ => rfl
  · unfold b_law_word
    repeat' constructor
    all_goals first | rfl | kernel_rfl | exact fun _ => ⟨_, rfl⟩ | exact fun _ _ => rfl
theorem tx_27 : TabText 27 ⟨1, 10, b_law_read⟩ := by
  refine ⟨26, _, _, _, _, _, rfl, rfl, ?_⟩
  refine ⟨rfl, rfl, rfl, by decide, by decide +kernel, ?_, ?_, ?_⟩
  · intro i x hi hx
    match i, hi with
    | 0, _ => cases hx; rfl
  · intro name pm cd doc args hl
    match args, hl with
    | [a], _ => rfl
  · unfold b_law_read
    repeat' constructor
    all_goals first | rfl | kernel_rfl | exact fun _ => ⟨_, rfl⟩ | exact fun _ _ => rfl
theorem tx_all : ∀ f fn, tab f = some fn → TabText f fn := by
  intro f fn h
  match f, h with
  | 3, rfl => exact tx_3
  | 4, rfl => exact tx_4
  | 5, rfl => exact tx_5
  | 6, rfl => exact tx_6
  | 7, rfl => exact tx_7
  | 8, rfl => exact tx_8
  | 9, rfl => exact tx_9
  | 10, rfl => exact tx_10
  | 11, rfl => exact tx_11
  | 12, rfl => exact tx_12
  | 13, rfl => exact tx_13
  | 14, rfl => exact tx_14
  | 15, rfl => exact tx_15
  | 16, rfl => exact tx_16
  | 17, rfl => exact tx_17
  | 18, rfl => exact tx_18
  | 19, rfl => exact tx_19
  | 20, rfl => exact tx_20
  | 21, rfl => exact tx_21
  | 22, rfl => exact tx_22
  | 23, rfl => exact tx_23
  | 24, rfl => exact tx_24
  | 25, rfl => exact tx_25
  | 26, rfl => exact tx_26
  | 27, rfl => exact tx_27
end Mine

end

-- Tx2
section
open PySem PySem.W PyProof.Rows PySem.Calls
namespace Mine
set_option maxRecDepth 100000
set_option maxHeartbeats 4000000

structure CallT (f : Nat) (P : List Stmt → Scope → Str → Prop) : Prop where
  ob : ∃ (i : Nat) (name : Str) (params : Arguments) (body : List Stmt) (scope : Scope) (pos : Pos) (x : Str), recs[i]? = some (DefRec.mk name params body scope pos) ∧ name = nameOf f ∧ CallText params body scope [x] ∧ P body scope x

theorem tx_0 : CallT 0 fun b _ x => NextText b x := by
  refine ⟨19, _, _, _, _, _, Str.ofString "row", rfl, rfl, ?_, ?_⟩
  · refine ⟨rfl, rfl, rfl, by decide, by decide +kernel, ?_, ?_⟩
    · intro x hx
      rw [List.mem_singleton] at hx
      subst hx
      rfl
    · intro name pm cd doc args hl
      match args, hl with
      | [a], _ => rfl
  · exact ⟨⟨_, _, _, _, _, _, _, _, _, _, _, _, rfl, rfl, fun _ => ⟨_, rfl⟩, rfl⟩, by decide +kernel⟩
theorem tx_1 : CallT 1 fun b sc x => TryText 3 b sc x := by
  refine ⟨27, _, _, _, _, _, Str.ofString "made", rfl, rfl, ?_, ?_⟩
  · refine ⟨rfl, rfl, rfl, by decide, by decide +kernel, ?_, ?_⟩
    · intro x hx
      rw [List.mem_singleton] at hx
      subst hx
      rfl
    · intro name pm cd doc args hl
      match args, hl with
      | [a], _ => rfl
  · exact ⟨⟨_, _, _, _, _, _, _, _, _, _, _, _, rfl, rfl, rfl, rfl, rfl, by decide +kernel⟩, by decide +kernel⟩
theorem tx_2 : CallT 2 fun b sc x => TryText 4 b sc x := by
  refine ⟨28, _, _, _, _, _, Str.ofString "word", rfl, rfl, ?_, ?_⟩
  · refine ⟨rfl, rfl, rfl, by decide, by decide +kernel, ?_, ?_⟩
    · intro x hx
      rw [List.mem_singleton] at hx
      subst hx
      rfl
    · intro name pm cd doc args hl
      match args, hl with
      | [a], _ => rfl
  · exact ⟨⟨_, _, _, _, _, _, _, _, _, _, _, _, rfl, rfl, rfl, rfl, rfl, by decide +kernel⟩, by decide +kernel⟩

/-- the top as the law's call finds it -/
structure TopM (P : Params) (mg mb : Str → Option Value) (g : Heap) : Prop where
  top : ∃ loose mean, Top vw loose mean mg mb g
  says : Says P g mg
theorem TopM.g {P : Params} {mg mb : Str → Option Value} {h : Heap} (T : TopM P mg mb h) : h.Ns mainGlobals mg := T.top.elim fun _ t => t.elim fun _ t => t.g
theorem TopM.b {P : Params} {mg mb : Str → Option Value} {h : Heap} (T : TopM P mg mb h) : h.Ns builtinsNs mb := T.top.elim fun _ t => t.elim fun _ t => t.b
theorem TopM.nolimit {P : Params} {mg mb : Str → Option Value} {h : Heap} (T : TopM P mg mb h) : h.NoLimit := T.top.elim fun _ t => t.elim fun _ t => t.nolimit
theorem TopM.builtins {P : Params} {mg mb : Str → Option Value} {h : Heap} (T : TopM P mg mb h) : ∀ x : Str, x ≠ "__name__" → mb x = bootBuiltins x := T.top.elim fun _ t => t.elim fun _ t => t.builtins
theorem TopM.fn {P : Params} {mg mb : Str → Option Value} {h : Heap} (T : TopM P mg mb h) {i : Nat} {name : Str} {params : Arguments} {body : List Stmt} {scope : Scope} {pos : Pos} (e : recs[i]? = some (DefRec.mk name params body scope pos)) :
    ∃ a o pm cd doc, mg name = some (.ref a) ∧ h.get? a = some o ∧ o.data = .func (docDef name params body scope pm cd doc) ∧ h.CodeRec cd name := by
  obtain ⟨_, _, t⟩ := T.top
  exact t.fn _ (rec_mem e)

theorem fnObj_of {c : Cx} {P : Params} (T : TopM P c.mg c.mb c.g) {f i : Nat} {name : Str} {params : Arguments} {body : List Stmt} {scope : Scope} {pos : Pos}
    (e1 : recs[i]? = some (DefRec.mk name params body scope pos)) (e2 : name = nameOf f) : FnObj c f params body scope := by
  obtain ⟨a, o, pm, cd, doc, h1, h2, h3, h4⟩ := T.fn e1
  exact ⟨a, o, name, pm, cd, doc, e2 ▸ h1, h2, h3, h4⟩

theorem texts_of {c : Cx} {P : Params} (T : TopM P c.mg c.mb c.g) : Texts c where
  next := by
    obtain ⟨i, name, params, body, scope, pos, x, e1, e2, T1, T2⟩ := tx_0.ob
    exact ⟨params, body, scope, x, T1, T2, fnObj_of T e1 e2⟩
  enc := by
    obtain ⟨i, name, params, body, scope, pos, x, e1, e2, T1, T2⟩ := tx_1.ob
    exact ⟨params, body, scope, x, T1, T2, fnObj_of T e1 e2⟩
  dec := by
    obtain ⟨i, name, params, body, scope, pos, x, e1, e2, T1, T2⟩ := tx_2.ob
    exact ⟨params, body, scope, x, T1, T2, fnObj_of T e1 e2⟩
  tab := fun f fn h => by
    obtain ⟨i, name, params, body, scope, pos, e1, e2, T1⟩ := (tx_all f fn h).ob
    exact ⟨params, body, scope, slotsOf f, T1, fnObj_of T e1 e2⟩

theorem bad_of {c : Cx} {P : Params} (S : Says P c.g c.mg) (hC : c.C = 44) (lim : c.g.NoLimit) : Nonempty (BadF c) := ⟨{
  K := fr P
  X := S.inK
  nm := Str.ofString "BadRow"
  q := Str.ofString "BadRow"
  N := 43
  bs := [.ref 24]
  bm := [.ref 24, .type "Exception", .type "BaseException", .type "object"]
  bmB := [.type "Exception", .type "BaseException", .type "object"]
  sn := _
  sub := _
  ab := _
  col := _
  dd := _
  k0 := _
  k1 := _
  k2 := _
  k3 := _
  k5 := _
  B := "Exception"
  newId := "Exception.__new__"
  initId := "Exception.__init__"
  hC := by rw [hC]; rfl
  F := PySem.F.excBase_Exception
  T := by kernel_rfl
  base := by decide +kernel
  obj := by decide +kernel
  pass := fun x => by rw [refuseLoop_ref]; exact PySem.F.store_Exception.passes _
  fI := 41
  init := by rw [hC]; kernel_rfl
  set := by rw [hC]; kernel_rfl
  attr := Str.ofString "what"
  what := by rw [hC]; kernel_rfl
  name := _
  qual := _
  params := _
  scope := _
  dV := _
  kV := _
  doc := _
  pm := _
  an := _
  cdv := _
  ct := _
  od := _
  sl := _
  p1 := _
  p2 := _
  p3 := _
  p4 := _
  xs := _
  xw := _
  fn := rfl
  code := by kernel_rfl
  bind := fun _ _ => rfl
  kind := rfl
  gen := rfl
  cor := rfl
  cell := by decide
  l1 := rfl
  l2 := rfl
  d1 := by decide +kernel
  d2 := by decide +kernel
  ne := by decide +kernel
  mg := by rw [hC]; exact S.bad
  lim := lim }⟩

theorem top_of {c : Cx} {P : Params} (T : TopM P c.mg c.mb c.g) : Top0 c where
  ns := T.g
  nb := T.b
  bi := fun x v h => by
    simp only [biN, List.mem_cons, List.not_mem_nil, or_false, Prod.mk.injEq] at h
    rcases h with ⟨rfl, rfl⟩ | ⟨rfl, rfl⟩ | ⟨rfl, rfl⟩ | ⟨rfl, rfl⟩ | ⟨rfl, rfl⟩ | ⟨rfl, rfl⟩ | ⟨rfl, rfl⟩ <;> exact ⟨T.says.no _ (by simp [biNames]), (T.builtins _ (by decide +kernel)).trans (by kernel_rfl)⟩
  fn := fun f h => by
    have one : ∀ {params : Arguments} {body : List Stmt} {scope : Scope}, FnObj c f params body scope → ∃ fa, FnAt c f fa := fun O => by
      obtain ⟨a, o, name, pm, cd, doc, h1, h2, h3, h4⟩ := O.ob
      exact ⟨a, h1, o, _, h2, h3⟩
    have X := texts_of T
    match f, h with
    | 0, _ => obtain ⟨_, _, _, _, _, _, O⟩ := X.next; exact one O
    | 1, _ => obtain ⟨_, _, _, _, _, _, O⟩ := X.enc; exact one O
    | 2, _ => obtain ⟨_, _, _, _, _, _, O⟩ := X.dec; exact one O
    | f + 3, h =>
      by_cases q : f < 25
      · obtain ⟨fn, e⟩ := Option.isSome_iff_exists.mp ((by decide +kernel : ∀ f, f < 25 → (tab (f + 3)).isSome = true) f q)
        obtain ⟨_, _, _, _, _, O⟩ := X.tab _ _ e
        exact one O
      · obtain rfl : f = 25 := by omega
        exact one (fnObj_of T (i := 29) rfl rfl)
end Mine

end

-- RowP
section
open PySem PySem.W PyProof.Rows
namespace Mine
set_option maxRecDepth 100000

noncomputable def b_lap : MSs := .cons (.ite (.cmp .Gt (.loc 3) (.lit (.int 0))) (.cons (.app 1 (.bin .Mod (.loc 3) (.lit (.int 1024)))) (.cons (.asg 3 (.bin .FloorDiv (.loc 3) (.lit (.int 1024)))) .nil)) .nil) .nil
noncomputable def b_row : MSs := .cons (.asg 3 (.ite (.cmp .GtE (.loc 2) (.lit (.int 0))) (.loc 2) (.bin .Sub (.lit (.int 7)) (.loc 2))))
  (.cons (.app 1 (.bin .Mod (.loc 3) (.lit (.int 1024)))) (.cons (.asg 3 (.bin .FloorDiv (.loc 3) (.lit (.int 1024)))) (.cons (.forR 4 (.lit (.int 30)) b_lap) .nil)))

noncomputable def rowCall (R : List Int) : Nat → List V → Nat → Out
  | 99, [.d (.int v)], k + 1 => match decide (R.reverse.getD k 0 = v ∧ k + 1 ≤ R.length) with
    | true => .ok .un k
    | false => .bad
  | _, _, _ => .bad

theorem rowCall_app {R pre post : List Int} {x : Int} (h : R = pre ++ x :: post) : rowCall R 99 [.d (.int x)] (post.length + 1) = .ok .un post.length := by
  have hl : R.length = pre.length + (post.length + 1) := by rw [h, List.length_append, List.length_cons]
  have e : R.reverse.getD post.length 0 = x := by
    rw [List.getD_eq_getElem?_getD, List.getElem?_reverse (by omega), show R.length - 1 - post.length = pre.length by omega, h, List.getElem?_append_right (Nat.le_refl _), Nat.sub_self]
    rfl
  show (match decide (R.reverse.getD post.length 0 = x ∧ post.length + 1 ≤ R.length) with
    | true => Out.ok .un post.length
    | false => .bad) = _
  rw [decide_eq_true (by constructor; exact e; omega)]

noncomputable def laps : Nat → Int → List Int
  | 0, _ => []
  | n + 1, f => if 0 < f then f.fmod 1024 :: laps n (f.fdiv 1024) else laps n f
noncomputable def cellFig (v : Int) : Int := if 0 ≤ v then v else 7 - v
noncomputable def cellInts (v : Int) : List Int := (cellFig v).fmod 1024 :: laps 30 ((cellFig v).fdiv 1024)
noncomputable def rowInts : List Int → List Int
  | [] => []
  | v :: r => cellInts v ++ rowInts r

theorem lap_turns {R : List Int} {s c : V} : ∀ (xs : List PyData) (f : Int) (l : V) (pre post : List Int), R = pre ++ laps xs.length f ++ post →
    ∃ f' l', turns (exSs (rowCall R) b_lap) 4 xs [s, .row, c, .d (.int f), l] (laps xs.length f ++ post).length = .next [s, .row, c, .d (.int f'), l'] post.length
  | [], f, l, pre, post, h => ⟨f, l, rfl⟩
  | x :: xs, f, l, pre, post, h => by
    by_cases hf : 0 < f
    · have hl : laps (x :: xs).length f = f.fmod 1024 :: laps xs.length (f.fdiv 1024) := by
        show (if 0 < f then _ else _) = _
        rw [if_pos hf]
      rw [hl] at h ⊢
      have h' : R = pre ++ f.fmod 1024 :: (laps xs.length (f.fdiv 1024) ++ post) := by rw [h]; simp
      obtain ⟨f', l', ih⟩ := lap_turns (R := R) (s := s) (c := c) xs (f.fdiv 1024) (.d x) (pre ++ [f.fmod 1024]) post (by rw [h']; simp)
      refine ⟨f', l', ?_⟩
      rw [turns]
      have e : exSs (rowCall R) b_lap ([s, .row, c, .d (.int f), l].set 4 (.d x)) (f.fmod 1024 :: laps xs.length (f.fdiv 1024) ++ post).length = .next [s, .row, c, .d (.int (f.fdiv 1024)), .d x] (laps xs.length (f.fdiv 1024) ++ post).length := by
        have ha := rowCall_app h'
        simp only [List.cons_append, List.length_cons]
        simp only [b_lap, exSs, exS, evE, one, List.set, tstR, ofB, cmpD, ofO, binD, List.getElem?_cons_zero, List.getElem?_cons_succ, gt_iff_lt, hf, decide_true, show decide ((1024 : Int) = 0) = false from rfl, show small 1024 = true from rfl, ha]
      rw [e]
      exact ih
    · have hl : laps (x :: xs).length f = laps xs.length f := by
        show (if 0 < f then _ else _) = _
        rw [if_neg hf]
      rw [hl] at h ⊢
      obtain ⟨f', l', ih⟩ := lap_turns (R := R) (s := s) (c := c) xs f (.d x) pre post h
      refine ⟨f', l', ?_⟩
      rw [turns]
      have e : exSs (rowCall R) b_lap ([s, .row, c, .d (.int f), l].set 4 (.d x)) (laps xs.length f ++ post).length = .next [s, .row, c, .d (.int f), .d x] (laps xs.length f ++ post).length := by
        simp only [b_lap, exSs, exS, evE, one, List.set, tstR, ofB, cmpD, List.getElem?_cons_zero, List.getElem?_cons_succ, gt_iff_lt, hf, decide_false]
      rw [e]
      exact ih

theorem upto_length : ∀ (n i : Nat), (upto n i).length = n
  | 0, _ => rfl
  | n + 1, i => by rw [upto, List.length_cons, upto_length n]

theorem row_body {R : List Int} {s f0 l0 : V} {v : Int} {pre post : List Int} (h : R = pre ++ cellInts v ++ post) :
    ∃ c f l, exSs (rowCall R) b_row [s, .row, .d (.int v), f0, l0] (cellInts v ++ post).length = .next [s, .row, c, f, l] post.length := by
  have h' : R = pre ++ (cellFig v).fmod 1024 :: (laps 30 ((cellFig v).fdiv 1024) ++ post) := by rw [h, cellInts]; simp
  obtain ⟨f', l', ih⟩ := lap_turns (R := R) (s := s) (c := .d (.int v)) (upto 30 0) ((cellFig v).fdiv 1024) l0 (pre ++ [(cellFig v).fmod 1024]) post (by rw [upto_length, h']; simp)
  rw [upto_length] at ih
  have ha := rowCall_app h'
  refine ⟨_, _, _, (?_ : _ = Res.next [s, .row, .d (.int v), .d (.int f'), l'] post.length)⟩
  rw [cellInts]
  simp only [List.cons_append, List.length_cons]
  have e1 : evE (rowCall R) [s, .row, .d (.int v), f0, l0] (.ite (.cmp .GtE (.loc 2) (.lit (.int 0))) (.loc 2) (.bin .Sub (.lit (.int 7)) (.loc 2))) ((laps 30 ((cellFig v).fdiv 1024) ++ post).length + 1) = .ok (.d (.int (cellFig v))) ((laps 30 ((cellFig v).fdiv 1024) ++ post).length + 1) := by
    by_cases hv : 0 ≤ v
    · simp only [evE, one, tst, ofB, cmpD, List.getElem?_cons_zero, List.getElem?_cons_succ, ge_iff_le, hv, decide_true, cellFig, if_true]
    · simp only [evE, one, tst, ofB, cmpD, ofO, binD, List.getElem?_cons_zero, List.getElem?_cons_succ, ge_iff_le, hv, decide_false, cellFig, if_false]
  rw [b_row, exSs, exS, e1]
  simp only [exSs, exS, evE, one, List.set, ofO, binD, List.getElem?_cons_zero, List.getElem?_cons_succ, show decide ((1024 : Int) = 0) = false from rfl, show small 1024 = true from rfl, ha, show decide ((0 : Int) ≤ 30) = true from rfl, show decide ((30 : Int) ≤ 1000) = true from rfl, show (30 : Int).toNat = 30 from rfl, ih]

theorem row_turns {R : List Int} {s : V} : ∀ (ns : List Int) (c f l : V) (pre post : List Int), R = pre ++ rowInts ns ++ post →
    ∃ c' f' l', turns (exSs (rowCall R) b_row) 2 (ns.map PyData.int) [s, .row, c, f, l] (rowInts ns ++ post).length = .next [s, .row, c', f', l'] post.length
  | [], c, f, l, pre, post, _ => ⟨c, f, l, rfl⟩
  | v :: ns, c, f, l, pre, post, h => by
    obtain ⟨c1, f1, l1, e⟩ := row_body (R := R) (s := s) (f0 := f) (l0 := l) (v := v) (pre := pre) (post := rowInts ns ++ post) (by rw [h, rowInts]; simp)
    obtain ⟨c2, f2, l2, e2⟩ := row_turns (R := R) (s := s) ns c1 f1 l1 (pre ++ cellInts v) post (by rw [h, rowInts]; simp)
    refine ⟨c2, f2, l2, ?_⟩
    rw [List.map_cons, turns, rowInts, List.append_assoc]
    show (match exSs (rowCall R) b_row [s, .row, .d (.int v), f, l] (cellInts v ++ (rowInts ns ++ post)).length with
      | .next ρ k => turns (exSs (rowCall R) b_row) 2 (ns.map PyData.int) ρ k
      | .ret v k => .ret v k
      | _ => .bad) = _
    rw [e]
    exact e2

theorem fmod_in (f : Int) : 0 ≤ f.fmod 1024 ∧ f.fmod 1024 < 1024 := ⟨Int.fmod_nonneg_of_pos f (by decide), Int.fmod_lt_of_pos f (by decide)⟩
theorem laps_in : ∀ (n : Nat) (f v : Int), v ∈ laps n f → 0 ≤ v ∧ v < 1024
  | 0, _, _, m => nomatch m
  | n + 1, f, v, m => by
    rw [laps] at m
    split at m
    · rcases List.mem_cons.mp m with rfl | m
      · exact fmod_in f
      · exact laps_in n _ v m
    · exact laps_in n _ v m
theorem laps_len : ∀ (n : Nat) (f : Int), (laps n f).length ≤ n
  | 0, _ => Nat.le_refl _
  | n + 1, f => by
    rw [laps]
    split
    · rw [List.length_cons]; exact Nat.succ_le_succ (laps_len n _)
    · exact Nat.le_succ_of_le (laps_len n _)
theorem rowInts_in : ∀ (ns : List Int) (v : Int), v ∈ rowInts ns → 0 ≤ v ∧ v < 1024
  | [], _, m => nomatch m
  | x :: ns, v, m => by
    rw [rowInts, cellInts] at m
    rcases List.mem_append.mp m with m | m
    · rcases List.mem_cons.mp m with rfl | m
      · exact fmod_in _
      · exact laps_in _ _ v m
    · exact rowInts_in ns v m
theorem rowInts_len : ∀ (ns : List Int), (rowInts ns).length ≤ 31 * ns.length
  | [] => Nat.le_refl _
  | x :: ns => by
    rw [rowInts, cellInts, List.length_append, List.length_cons, List.length_cons]
    have := laps_len 30 ((cellFig x).fdiv 1024)
    have := rowInts_len ns
    omega
end Mine

end

-- Row
section
open PySem PySem.W PyProof.Rows PySem.Calls
namespace Mine
set_option maxRecDepth 100000
set_option maxHeartbeats 4000000

noncomputable def rS : Str := Str.ofString "script"
noncomputable def rR : Str := Str.ofString "row"
noncomputable def rC : Str := Str.ofString "cell"
noncomputable def slRow : List Str := [rS, rR, rC, Str.ofString "figure", Str.ofString "lap"]
noncomputable def RowText (body : List Stmt) (scope : Scope) : Prop :=
  ∃ p1 p2 p3 p4 p5 k1 p6 p7 p8 fb p9 p10 p11 k2 p12 p13 p14 p15 p16 p17 p18 p19 p20 p21, body = [.Assign [.Name rR p1] (.List [] p2) p3, .For (.Name rC p4) (.Subscript (.Name rS p5) (.Slice none (some (.Constant (.int 40) k1 p6)) none p7) p8) fb [] p9,
    .Assign [.Name rR p10] (.Subscript (.Name rR p11) (.Slice none (some (.Constant (.int 160) k2 p12)) none p13) p14) p15, .Expr (.Call (.Attribute (.Name rR p16) (Str.ofString "reverse") p17) [] [] p18) p19, .Return (some (.Name rR p20)) p21] ∧
    CkSs scope slRow b_row fb ∧ MethEq (.Name rR p16) (Str.ofString "reverse") p17 [] p18 ∧ ∀ x ∈ slRow, scope.names.lookup x = some .local

theorem tx_row : ∃ (i : Nat) (name : Str) (params : Arguments) (body : List Stmt) (scope : Scope) (pos : Pos), recs[i]? = some (DefRec.mk name params body scope pos) ∧ name = Str.ofString "_law_row" ∧ CallText params body scope [rS] ∧ RowText body scope := by
  refine ⟨18, _, _, _, _, _, rfl, rfl, ?_, ?_⟩
  · refine ⟨rfl, rfl, rfl, by decide, by decide +kernel, ?_, ?_⟩
    · intro x hx
      rw [List.mem_singleton] at hx
      subst hx
      rfl
    · intro name pm cd doc args hl
      match args, hl with
      | [a], _ => rfl
  · refine ⟨_, _, _, _, _, _, _, _, _, _, _, _, _, _, _, _, _, _, _, _, _, _, _, _, rfl, ?_, fun _ => ⟨_, rfl⟩, by decide +kernel⟩
    unfold b_row b_lap
    repeat' constructor
    all_goals first | rfl | kernel_rfl | exact fun _ => ⟨_, rfl⟩ | exact fun _ _ => rfl

theorem ints_rev {vs : List Value} {ns : List Int} (h : IntsAre vs ns) : IntsAre vs.reverse ns.reverse := by
  induction h with
  | nil => exact .nil
  | cons n t r ih =>
    rw [List.reverse_cons, List.reverse_cons]
    exact ih.append (.cons n t .nil)

theorem rowCall_bad {R : List Int} {f : Nat} {vs : List V} {k : Nat} (h : f < 29) : rowCall R f vs k = .bad := by
  unfold rowCall
  split
  · omega
  · rfl
theorem rowCall_ok {c : Cx} (h1 : c.g.get? c.ra = none) (h2 : c.R.length ≤ 4000) : AppOk c (rowCall c.R) := by
  intro v k r k' e
  cases k with
  | zero => cases e
  | succ k =>
    change (match decide (c.R.reverse.getD k 0 = v ∧ k + 1 ≤ c.R.length) with
      | true => Out.ok .un k
      | false => .bad) = _ at e
    split at e
    · rename_i hd
      have := of_decide_eq_true hd
      cases e
      exact ⟨rfl, this.2, this.1, h1, h2⟩
    · cases e

theorem lt_ne {a b c : Nat} (h : a < b) (h2 : b ≤ c) : a ≠ c := fun q => by omega

theorem call_row {P : Params} {prog : Program} {w : World} {p : Program} {loose : List Str} {mg mb : Str → Option Value} {g : Heap} (T : TopM P mg mb g) {fa : Addr} (hfa : mg (Str.ofString "_law_row") = some (.ref fa)) {A : Around} {fs : List Env} {s : Shared} {q : Addr} {vs : List Value} {ns : List Int} {n : Nat} {osl : Array (Option Value)} {Q E : Value → Shared → Prop}
    (hh : A.handled = none) (hdep : A.depth + 20 < recursionLimit) (hun : A.units + 300 < cLine) (hfr : A.frames = some fs) (htop : ∃ b, b ∈ frs fs ∧ g.objs.size ≤ b) (hff : s.heap.FunFrames g fs) (hb : g.StaysIn s.heap)
    (hq : s.heap.get? q = some ⟨.type "list", none, .seq vs.toArray n, osl⟩) (hi : IntsAre vs ns) (hlen : ns.length ≤ 1000)
    (hQ : ∀ ra h' tk' vs' n', g.StaysIn h' → Keep (frs fs) (fun _ => False) s.heap h' → s.heap.objs.size ≤ ra → IsL h' ra vs'.toArray n' → IntsAre vs' ((rowInts (ns.take 40)).take 160).reverse → Q (.ref ra) { s with heap := h', toks := tk' }) :
    wpAny (model prog w) A (PySem.call (.ref fa) [.ref q]) Q E s := by
  obtain ⟨ix, nm, params, body, scope, pos, e1, e2, T1, T2⟩ := tx_row
  obtain ⟨fa', o1, pm, cd, doc, h1, h2, h3, h4⟩ := T.fn e1
  rw [e2, hfa] at h1
  obtain rfl : fa = fa' := by injection h1 with h1; injection h1
  obtain ⟨p1, p2, p3, p4, p5, k1, p6, p7, p8, fb, p9, p10, p11, k2, p12, p13, p14, p15, p16, p17, p18, p19, p20, p21, rfl, ck, hM, hloc⟩ := T2
  have lS := hloc rS (.head _)
  have lR := hloc rR (.tail _ (.head _))
  have lC := hloc rC (.tail _ (.tail _ (.head _)))
  have hsz : g.objs.size ≤ s.heap.objs.size := by
    obtain ⟨b, m, e⟩ := htop
    obtain ⟨_, o, ho, _⟩ := hff.mem m
    exact Nat.le_trans e (Nat.le_of_lt (Heap.lt_size ho))
  refine wpAny_call (call_plain (by omega) (hb _ _ h2) h3 (T.nolimit.keeps hb) (h4.keeps hb) (T1.bind nm pm cd doc [.ref q] rfl) (fun y hy => T1.loc y.1 (List.of_mem_zip (a := y.1) (b := y.2) hy).1) (fun h₁ F => ?_) T1.cor T1.gen T1.kind T1.cell)
  have hk := T1.kind
  have hcond : ((envOf nm scope s.heap.objs.size fa cd).scope.kind == .class || ((envOf nm scope s.heap.objs.size fa cd).scope.kind == .module && s.heap.objs.size != mainGlobals)) = false := by
    show (scope.kind == .class || (scope.kind == .module && _)) = false
    rw [hk]
    rfl
  have F1 : Fr g s.heap.objs.size h₁ (fun x => ([rS].zip [Value.ref q]).reverse.lookup x) := ⟨F.ns, fun b o e => F.keep b o (hb b o e), hsz⟩
  have hL1 : s.heap.objs.size < h₁.objs.size := F1.ns.lt
  -- row = []
  refine wpAny_execs_cons (wpAny_Assign_Name (List_ (args_nil (wpAny_newObj_type ?_ (by show (#[] : Array Value).size ≤ sizeLine; rw [sizeLine_eq]; decide)))) rfl)
  have F2 : Fr g s.heap.objs.size (h₁.push { cls := .type "list", data := .seq #[] }) (fun x => ([rS].zip [Value.ref q]).reverse.lookup x) := ⟨F1.ns.keeps fun b o e => Heap.get?_push_of_some _ e, fun b o e => Heap.get?_push_of_some _ (F1.keep b o e), hsz⟩
  refine wpAny_storeName_local lR F2.ns (fun h₃ hn hs => ?_) hcond
  have F3 := F2.set hn hs
  have hne1 : h₁.objs.size ≠ s.heap.objs.size := by omega
  have hra1 : h₃.get? h₁.objs.size = some { cls := .type "list", data := .seq #[] } := (hs.2 _ hne1).trans (Heap.get?_push_size _ rfl)
  have keep3 : ∀ b o, s.heap.get? b = some o → h₃.get? b = some o := fun b o e => (hs.2 _ (Nat.ne_of_lt (Heap.lt_size e))).trans (Heap.get?_push_of_some _ (F.keep b o e))
  have hgra : g.get? h₁.objs.size = none := Heap.get?_none_of_le (by omega)
  have hRlen : (rowInts (ns.take 40)).length ≤ 4000 := by
    have := rowInts_len (ns.take 40)
    rw [List.length_take] at this
    omega
  let c1 : Cx := { prog := prog, w := w, p := p, loose := loose, mean := fun _ => none, mg := mg, mb := mb, g := g, ra := h₁.objs.size, R := rowInts (ns.take 40), C := 44 }
  have hc1 : Top0 c1 := top_of (c := c1) T
  obtain ⟨D1⟩ := bad_of (c := c1) T.says rfl T.nolimit
  have hall : CallOk c1 (rowCall c1.R) 5 := by
    intro f fa vs k A fs s args Q E hf _ _ _ _ _ _ p
    rw [rowCall_bad hf] at p
    exact p.elim
  have hap : AppOk c1 (rowCall c1.R) := rowCall_ok hgra hRlen
  have hfs : ∀ b ∈ frs fs, b < s.heap.objs.size := fun b m => by
    obtain ⟨_, o, ho, _⟩ := hff.mem m
    exact Heap.lt_size ho
  have hnra : c1.ra ∉ frs (envOf nm scope s.heap.objs.size fa cd :: fs) := by
    rw [frs_cons]
    intro m
    rcases List.mem_cons.mp m with e | m
    · exact hne1 e
    · have : h₁.objs.size < s.heap.objs.size := hfs _ m
      omega
  have hA1 : Ar c1 (A.deeper (envOf nm scope s.heap.objs.size fa cd)) 5 (envOf nm scope s.heap.objs.size fa cd :: fs) := by
    refine ⟨hh, ?_, ?_, ?_, hnra, ⟨s.heap.objs.size, .head _, hsz⟩⟩
    · show A.depth + 1 + 5 + 10 < _
      omega
    · show A.units + 3 + 3 * 5 + 200 < _
      omega
    · show A.frames.map _ = _
      rw [hfr]
      rfl
  have vrq : ∀ h, h.get? q = some ⟨.type "list", none, .seq vs.toArray n, osl⟩ → VR c1 h (.ref q) (.d (.list (ns.map PyData.int))) := fun h e => ⟨[q], .list e rfl rfl (IntsAre.reads _ hi), by rw [PyData.canLay0]; exact lay_ints _, fun b m => by
    rw [List.mem_singleton] at m
    subst m
    refine ⟨fun z => ?_, _, _, _, e, rfl, rfl⟩
    have z2 : h₁.objs.size < s.heap.objs.size := (show b = h₁.objs.size from z) ▸ Heap.lt_size hq
    omega⟩
  have hF3 : Fm c1 slRow (envOf nm scope s.heap.objs.size fa cd :: fs) s.heap.objs.size [.d (.list (ns.map PyData.int)), .row, .un, .un, .un] h₃ (rowInts (ns.take 40) ++ []).length := by
    refine ⟨⟨_, F3, fun i x hi y hy hn => ?_⟩, ?_, ⟨[], _, 0, hra1, rfl, rfl, rfl, rfl, ?_⟩, hnra, fun q => hne1 q.symm⟩
    · match i, hi, hy with
      | 0, hi, hy =>
        cases hi
        cases hy
        refine ⟨.ref q, ?_, vrq _ (keep3 _ _ hq)⟩
        show (if rS = rR then _ else _) = _
        rw [if_neg (by decide +kernel)]
        show List.lookup rS [(rS, Value.ref q)] = _
        exact List.lookup_cons_self
      | 1, hi, hy =>
        cases hi
        cases hy
        refine ⟨.ref h₁.objs.size, ?_, rfl⟩
        show (if rR = rR then _ else _) = _
        rw [if_pos rfl]
      | 2, _, hy => cases hy; exact absurd rfl hn
      | 3, _, hy => cases hy; exact absurd rfl hn
      | 4, _, hy => cases hy; exact absurd rfl hn
      | i + 5, _, hy => cases hy
    · exact Heap.FunFrames.cons (by show scope.kind ≠ .module; rw [hk]; decide) rfl hn (Heap.get?_none_of_le hsz) (hff.of_keeps fun b o e _ => ⟨o, keep3 b o e, rfl⟩)
    · show IntsAre [] (List.take ((rowInts (ns.take 40)).length - (rowInts (ns.take 40) ++ []).length) (rowInts (ns.take 40)))
      rw [List.append_nil, Nat.sub_self, List.take_zero]
      exact .nil
  have hq3 := keep3 _ _ hq
  have hvl := IntsAre.length hi
  have hnd : slRow.Nodup := by decide +kernel
  -- for cell in script[:40]
  refine wpAny_execs_cons (wpAny_For (wpAny_Subscript_list_slice (wpAny_Name (wpAny_loadName_local hk lS F3.ns (v := .ref q) ?_ ?_) (by decide +kernel))) (by intro _; rfl))
  · show (if rS = rR then _ else _) = _
    rw [if_neg (by decide +kernel)]
    show List.lookup rS [(rS, Value.ref q)] = _
    exact List.lookup_cons_self
  refine evalPart_none_step (evalPart_some_step (wpAny_Constant_int ⟨q, vs.toArray, none, some 40, rfl, ⟨_, hq3, rfl, n, rfl⟩, by rw [List.size_toArray, sizeLine_eq]; omega, .none, .int _ _, ?_⟩))
  have e40 : slicePick vs.toArray none (some 40) none = (vs.take 40).toArray := slicePick_upto' vs.toArray 40
  rw [e40]
  have up1 : ∀ {h : Heap} {ob : Obj} {ρ : List V} {k : Nat}, Fm c1 slRow (envOf nm scope s.heap.objs.size fa cd :: fs) s.heap.objs.size ρ h k → Fm c1 slRow (envOf nm scope s.heap.objs.size fa cd :: fs) s.heap.objs.size ρ (h.push ob) k := fun {h ob ρ k} hF => hF.up (s := { s with heap := h }) ⟨fun b o e => Heap.get?_push_of_some _ (hF.base b o e), RowAt.up (F := []) (ex := fun _ => False) (Keep.push _) id hF.row, Keep.push _⟩
  generalize hh4 : (h₃.push { cls := .type "slice", data := .fields #[.none, .int 40 _, .none] }) = h4a
  have hsz4 : h4a.objs.size = h₃.objs.size + 1 := by rw [← hh4, Heap.size_push]
  have hF4a : Fm c1 slRow (envOf nm scope s.heap.objs.size fa cd :: fs) s.heap.objs.size [.d (.list (ns.map PyData.int)), .row, .un, .un, .un] h4a (rowInts (ns.take 40) ++ []).length := by rw [← hh4]; exact up1 hF3
  have keep4 : ∀ b o, s.heap.get? b = some o → (h4a.push { cls := .type "list", data := .seq (vs.take 40).toArray }).get? b = some o := fun b o e => Heap.get?_push_of_some _ (by rw [← hh4]; exact Heap.get?_push_of_some _ (keep3 b o e))
  rw [← hsz4]
  have hD : (h4a.push { cls := .type "list", data := .seq (vs.take 40).toArray }).get? h4a.objs.size = some { cls := .type "list", data := .seq (vs.take 40).toArray } := Heap.get?_push_size _ rfl
  refine wpAny_pyIter_list ⟨_, hD, rfl, 0, rfl⟩ ?_
  have hF4 := up1 (ob := { cls := .type "list", data := .seq (vs.take 40).toArray }) hF4a
  have vrD : VR c1 ((h4a.push { cls := .type "list", data := .seq (vs.take 40).toArray }).push { cls := .type "list_iterator", data := .fields #[.ref h4a.objs.size, .int 0 0] }) (.ref h4a.objs.size) (.d (.list ((ns.take 40).map PyData.int))) := by
    refine ⟨[h4a.objs.size], .list (Heap.get?_push_of_some _ hD) rfl rfl (IntsAre.reads _ (hi.take 40)), by rw [PyData.canLay0]; exact lay_ints _, fun b m => ?_⟩
    rw [List.mem_singleton] at m
    subst m
    refine ⟨fun z => ?_, _, _, _, Heap.get?_push_of_some _ hD, rfl, rfl⟩
    have z' : h₁.objs.size < h₃.objs.size := Heap.lt_size hra1
    rw [hsz4] at z
    have : h₃.objs.size + 1 = h₁.objs.size := z
    omega
  refine loopL_ok (E := fun _ _ => False) (c := c1) (call := rowCall c1.R) (N := 5) (sl := slRow) (s := ⟨h4a.push { cls := .type "list", data := .seq (vs.take 40).toArray }, s.gens, s.drawn, _, s.os⟩) hk hnd (ix := 2) rfl lC (sndSs hc1 hall (raise_ok hc1 D1) hap hk hnd ck) hA1 (.head _) (Heap.get?_none_of_le (Nat.le_refl _)) (up1 hF4) (Keep.push _) (ItAt.new hF4 rfl) ⟨_, Heap.get?_push_size _ rfl, rfl, rfl⟩ vrD ?_ _ fun f s' q => q
  obtain ⟨c', f', l', et⟩ := row_turns (R := rowInts (ns.take 40)) (s := .d (.list (ns.map PyData.int))) (ns.take 40) .un .un .un [] [] (by simp)
  rw [show c1.R = rowInts (ns.take 40) from rfl, et]
  intro h6 tk6 F6 K6
  obtain ⟨m6, Fr6, he6⟩ := F6.fr
  obtain ⟨u, hu, hur⟩ := he6 1 rR rfl .row rfl (by intro q; cases q)
  obtain rfl : u = .ref c1.ra := hur
  obtain ⟨vs6, ⟨oc6, od6, odd6, osl6⟩, n6, e6, rfl, rfl, rfl, rfl, i6⟩ := F6.row
  have i6' : IntsAre vs6 (rowInts (ns.take 40)) := by
    have z : c1.R.take (c1.R.length - ([] : List Int).length) = rowInts (ns.take 40) := List.take_length
    rw [z] at i6
    exact i6
  have hl6 := IntsAre.length i6'
  -- row = row[:160]
  refine wpAny_execs_cons (wpAny_Assign_Name (wpAny_Subscript_list_slice (wpAny_Name (wpAny_loadName_local hk lR Fr6.ns hu ?_) (by decide +kernel))) rfl)
  refine evalPart_none_step (evalPart_some_step (wpAny_Constant_int ⟨c1.ra, vs6.toArray, none, some 160, rfl, ⟨_, e6, rfl, n6, rfl⟩, by rw [List.size_toArray, sizeLine_eq]; omega, .none, .int _ _, ?_⟩))
  have e160 : slicePick vs6.toArray none (some 160) none = (vs6.take 160).toArray := slicePick_upto' vs6.toArray 160
  rw [e160]
  generalize hh7 : (h6.push { cls := .type "slice", data := .fields #[.none, .int 160 _, .none] }) = h7a
  have hsz7 : h7a.objs.size = h6.objs.size + 1 := by rw [← hh7, Heap.size_push]
  rw [← hsz7]
  have keep7 : ∀ b o, h6.get? b = some o → (h7a.push { cls := .type "list", data := .seq (vs6.take 160).toArray }).get? b = some o := fun b o e => Heap.get?_push_of_some _ (by rw [← hh7]; exact Heap.get?_push_of_some _ e)
  have hD7 : (h7a.push { cls := .type "list", data := .seq (vs6.take 160).toArray }).get? h7a.objs.size = some { cls := .type "list", data := .seq (vs6.take 160).toArray } := Heap.get?_push_size _ rfl
  have hL6 : s.heap.objs.size < h6.objs.size := Fr6.ns.lt
  have Fr7 : Fr g s.heap.objs.size (h7a.push { cls := .type "list", data := .seq (vs6.take 160).toArray }) m6 := ⟨Fr6.ns.keeps keep7, fun b o e => keep7 b o (Fr6.keep b o e), hsz⟩
  refine wpAny_storeName_local lR Fr7.ns (fun h8 hn8 hs8 => ?_) hcond
  have Fr8 := Fr7.set hn8 hs8
  have hne8 : h7a.objs.size ≠ s.heap.objs.size := by omega
  have hD8 : IsL h8 h7a.objs.size (vs6.take 160).toArray 0 := (hs8.2 _ hne8).trans hD7
  have hl8 : (vs6.take 160).length ≤ 160 := List.length_take_le ..
  -- row.reverse()
  obtain ⟨pl, hpl⟩ := hM (envOf nm scope s.heap.objs.size fa cd)
  refine wpAny_execs_cons (wpAny_Expr (hi := by show ((scope.kind == .module) && _) = false; rw [hk]; rfl) (MethodCall_ (pl := pl) (wpAny_Name (wpAny_loadName_local hk lR Fr8.ns (v := .ref h7a.objs.size) (by show (if rR = rR then _ else _) = _; rw [if_pos rfl]) ?_) (by decide +kernel)) hpl))
  refine getMethod_list_of PySem.F.slot_list_reverse PySem.F.type_list_reverse hD8.isList ⟨_, hD8, rfl⟩ ?_
  refine PySem.P.reverse_list hD8 ?_ (by rw [List.size_toArray, sizeLine_eq]; omega)
  -- return row
  have hup := hD8.update fun x => x.reverse
  have hoth : ∀ b o, b ≠ h7a.objs.size → h8.get? b = some o → (h8.update h7a.objs.size (Obj.mapSeq fun x => x.reverse)).get? b = some o := fun b o n e => (Heap.get?_update_ne _ _ _ _ n).trans e
  have hns9 : (h8.update h7a.objs.size (Obj.mapSeq fun x => x.reverse)).Ns s.heap.objs.size (fun y => if y = rR then some (Value.ref h7a.objs.size) else m6 y) := by
    obtain ⟨o, es, ep, e, r⟩ := Fr8.ns
    exact ⟨o, es, ep, hoth _ _ hne8.symm e, r⟩
  refine wpAny_execs_cons (wpAny_Return_some (wpAny_Name (wpAny_loadName_local hk lR hns9 (v := .ref h7a.objs.size) (by show (if rR = rR then _ else _) = _; rw [if_pos rfl]) ?_) (by decide +kernel)))
  refine hQ h7a.objs.size _ _ (vs6.take 160).reverse _ (fun b o e => hoth b o ?_ (Fr8.keep b o e)) (fun b o _ e => ?_) (by omega) (by rw [List.reverse_toArray] at hup; exact hup) (ints_rev (i6'.take 160))
  · exact lt_ne (Heap.lt_size e) (by omega)
  · have hbl : b < s.heap.objs.size := Heap.lt_size e
    have hb7 : b ≠ h7a.objs.size := lt_ne hbl (by omega)
    have hbL : b ≠ s.heap.objs.size := Nat.ne_of_lt hbl
    have hbx : ¬ exL c1 s.heap.objs.size b := fun z => z.elim (fun z => lt_ne (c := h₁.objs.size) hbl (by omega) z) hbL
    have KK := K6 b o hbx (keep4 b o e)
    refine ⟨fun m => ?_, fun nm => ?_⟩
    · obtain ⟨sl, e6'⟩ := KK.1 (by rw [frs_cons]; exact .tail _ m)
      exact ⟨sl, hoth _ _ hb7 ((hs8.2 _ hbL).trans (keep7 _ _ e6'))⟩
    · refine hoth _ _ hb7 ((hs8.2 _ hbL).trans (keep7 _ _ (KK.2 fun m => ?_)))
      rw [frs_cons] at m
      rcases List.mem_cons.mp m with z | z
      · exact hbL z
      · exact nm z
end Mine

end

-- Law
section
open PySem PySem.W PyProof.Rows PySem.Calls
namespace Mine
set_option maxRecDepth 100000
set_option maxHeartbeats 4000000

noncomputable def slLaw : List Str := [Str.ofString "script", Str.ofString "row", Str.ofString "at", Str.ofString "lap", Str.ofString "odd", Str.ofString "wrong_x", Str.ofString "far", Str.ofString "made", Str.ofString "sound", Str.ofString "word", Str.ofString "due", Str.ofString "spot"]
noncomputable def LawText (t : List Stmt) (sc : Scope) : Prop :=
  ∃ p1 p2 p3 p4 p5 rest, t = .Assign [.Name rR p1] (.Call (.Name (Str.ofString "_law_row") p2) [.Name rS p3] [] p4) p5 :: rest ∧ CkSs sc slLaw b_law rest ∧ sc.names.lookup rR = some .local ∧ sc.names.lookup rS = some .local ∧ sc.names.lookup (Str.ofString "_law_row") = some .globalImplicit ∧ sc.kind = .function

noncomputable def rho0 (ns : List Int) : List V := [.d (.list (ns.map PyData.int)), .row, .un, .un, .un, .un, .un, .un, .un, .un, .un, .un]

theorem well_obj {P : Params} {h : Heap} {a : Addr} {ns : List Int} (x : Well P h (.ref a) (ofPy (.list (ns.map PyData.int)))) : ∃ vs : List Value, h.get? a = some { cls := .type "list", data := .seq vs.toArray } := by
  rw [ofPy] at x
  cases x with
  | list e _ => exact ⟨_, e⟩

theorem law_all {P : Params} {prog : Program} {w : World} {p : Program} {loose : List Str} {mg mb : Str → Option Value} {s₁ : Shared} (T : TopM P mg mb s₁.heap) {h₁ : Heap} {tk : Nat} {fa q : Addr} {cd : Value} {nm : Str} {sc : Scope} {t : List Stmt}
    (hT : LawText t sc) (F : Fr s₁.heap s₁.heap.objs.size h₁ (fun x => List.lookup x [(rS, Value.ref q)].reverse)) {vs : List Value} {ns : List Int} (hL : s₁.heap.IsList q vs.toArray) (hi : IntsAre vs ns) (hw : Well P s₁.heap (.ref q) (ofPy (.list (ns.map PyData.int)))) (hlen : ns.length ≤ 1000)
    (hp : ∀ δ : Nat → Int, (∀ k, 0 ≤ δ k ∧ δ k < 1024) → ∃ k, exSs (evF δ tab 30) b_law (rho0 ns) 0 = .ret (.d (.bool true)) k)
    {Q : Flow → Shared → Prop} {E : Value → Shared → Prop} (hQ : ∀ h' tk', (∀ b o, s₁.heap.get? b = some o → h'.get? b = some o) → Q (.ret (.bool true)) { s₁ with heap := h', toks := tk' }) :
    wpAny (model prog w) (callerA.deeper (envOf nm sc s₁.heap.objs.size fa cd)) (execs t (envOf nm sc s₁.heap.objs.size fa cd)) Q E { s₁ with heap := h₁, toks := tk } := by
  obtain ⟨p1, p2, p3, p4, p5, rest, rfl, ck, lR, lS, lr, hk⟩ := hT
  obtain ⟨vs', hq⟩ := well_obj hw
  obtain ⟨o, ho, hoc, n0, hod⟩ := hL
  rw [hq] at ho
  cases ho
  injection hod with hv hn
  subst hn
  rw [hv] at hq
  have hcond : ((envOf nm sc s₁.heap.objs.size fa cd).scope.kind == .class || ((envOf nm sc s₁.heap.objs.size fa cd).scope.kind == .module && s₁.heap.objs.size != mainGlobals)) = false := by
    show (sc.kind == .class || (sc.kind == .module && _)) = false
    rw [hk]
    rfl
  have hff1 : h₁.FunFrames s₁.heap [envOf nm sc s₁.heap.objs.size fa cd] := Heap.FunFrames.cons (by show sc.kind ≠ .module; rw [hk]; decide) rfl F.ns (Heap.get?_none_of_le (Nat.le_refl _)) trivial
  have hlook : ∀ (x : Str), x = rS → List.lookup x [(rS, Value.ref q)].reverse = some (.ref q) := fun x e => by
    subst e
    exact List.lookup_cons_self
  obtain ⟨ix, nm', params, body, scope, pos, e1, e2, T1, T2⟩ := tx_row
  obtain ⟨fw, ow, pm, cd', doc, hfw, h2w, h3w, h4w⟩ := T.fn e1
  rw [e2] at hfw
  refine wpAny_execs_cons (wpAny_Assign_Name (Call_ (Calls.Name_function_global hk lr (Calls.loadGlobal_global (env := envOf nm sc s₁.heap.objs.size fa cd) (T.g.keeps F.keep) hfw ?_) (by decide +kernel))) rfl)
  refine callWith_def (o := ow) (fd := _) h3w (args_cons (wpAny_Name (wpAny_loadName_local hk lS F.ns (hlook _ rfl) (args_nil ⟨F.keep _ _ h2w, ?_⟩)) (by decide +kernel)) rfl) rfl
  refine call_row (p := p) (loose := loose) (s := ⟨h₁, s₁.gens, s₁.drawn, tk, s₁.os⟩) T hfw rfl (by show callerA.depth + 1 + 20 < recursionLimit; decide) (by show callerA.units + 3 + 300 < cLine; decide) rfl ⟨s₁.heap.objs.size, .head _, Nat.le_refl _⟩ hff1 F.keep (F.keep _ _ hq) hi hlen fun ra h2 tk2 vs2 n2 b2 K2 hra hI2 hi2 => ?_
  -- row = ..
  have hLn : s₁.heap.objs.size < h₁.objs.size := F.ns.lt
  replace hra : h₁.objs.size ≤ ra := hra
  have hns2 : h2.Ns s₁.heap.objs.size (fun x => List.lookup x [(rS, Value.ref q)].reverse) := by
    obtain ⟨o, es, ep, e, d, r⟩ := F.ns
    obtain ⟨sl, e'⟩ := (K2 _ _ id e).1 (.head _)
    exact ⟨_, es, ep, e', d, r⟩
  refine wpAny_storeName_local lR hns2 (fun h3 hn3 hs3 => ?_) hcond
  have F2 : Fr s₁.heap s₁.heap.objs.size h2 (fun x => List.lookup x [(rS, Value.ref q)].reverse) := ⟨hns2, b2, Nat.le_refl _⟩
  have F3 := F2.set hn3 hs3
  have hran : ra ≠ s₁.heap.objs.size := by omega
  let c2 : Cx := { prog := prog, w := w, p := p, loose := loose, mean := fun _ => none, mg := mg, mb := mb, g := s₁.heap, ra := ra, R := ((rowInts (ns.take 40)).take 160).reverse, C := 44 }
  have hc2 : Top0 c2 := top_of (c := c2) T
  obtain ⟨D2⟩ := bad_of (c := c2) T.says rfl T.nolimit
  have hRl : c2.R.length ≤ 4000 := by
    show (((rowInts (ns.take 40)).take 160).reverse).length ≤ 4000
    rw [List.length_reverse, List.length_take]
    omega
  have hgra : c2.g.get? c2.ra = none := Heap.get?_none_of_le (by show s₁.heap.objs.size ≤ ra; omega)
  have hq3 : h3.get? q = some ⟨.type "list", none, .seq vs.toArray 0, #[]⟩ := F3.keep _ _ hq
  have hnra : c2.ra ∉ frs [envOf nm sc s₁.heap.objs.size fa cd] := fun m => by
    rw [frs_cons] at m
    rcases List.mem_cons.mp m with z | z
    · exact hran z
    · cases z
  have hA : Ar c2 (callerA.deeper (envOf nm sc s₁.heap.objs.size fa cd)) 30 [envOf nm sc s₁.heap.objs.size fa cd] := ⟨rfl, by show callerA.depth + 1 + 30 + 10 < recursionLimit; decide, by show callerA.units + 3 + 3 * 30 + 200 < cLine; decide, rfl, hnra, ⟨s₁.heap.objs.size, .head _, Nat.le_refl _⟩⟩
  have hF : Fm c2 slLaw [envOf nm sc s₁.heap.objs.size fa cd] s₁.heap.objs.size (rho0 ns) h3 0 := by
    refine ⟨⟨_, F3, fun i x hi' y hy hn => ?_⟩, ?_, ⟨vs2, _, n2, (hs3.2 _ hran).trans hI2, rfl, rfl, rfl, rfl, ?_⟩, hnra, fun z => hran z.symm⟩
    · match i, hi', hy with
      | 0, hi', hy =>
        cases hi'
        cases hy
        refine ⟨.ref q, ?_, [q], .list hq3 rfl rfl (IntsAre.reads _ hi), by rw [PyData.canLay0]; exact lay_ints _, fun b m => ?_⟩
        · show (if rS = rR then _ else _) = _
          rw [if_neg (by decide +kernel)]
          exact hlook _ rfl
        · rw [List.mem_singleton] at m
          subst m
          refine ⟨lt_ne (c := ra) (Heap.lt_size hq) (by omega), _, _, _, hq3, rfl, rfl⟩
      | 1, hi', hy =>
        cases hi'
        cases hy
        refine ⟨.ref ra, ?_, rfl⟩
        show (if rR = rR then _ else _) = _
        rw [if_pos rfl]
      | 2, _, hy => cases hy; exact absurd rfl hn
      | 3, _, hy => cases hy; exact absurd rfl hn
      | 4, _, hy => cases hy; exact absurd rfl hn
      | 5, _, hy => cases hy; exact absurd rfl hn
      | 6, _, hy => cases hy; exact absurd rfl hn
      | 7, _, hy => cases hy; exact absurd rfl hn
      | 8, _, hy => cases hy; exact absurd rfl hn
      | 9, _, hy => cases hy; exact absurd rfl hn
      | 10, _, hy => cases hy; exact absurd rfl hn
      | 11, _, hy => cases hy; exact absurd rfl hn
      | i + 12, _, hy => cases hy
    · exact Heap.FunFrames.cons (by show sc.kind ≠ .module; rw [hk]; decide) rfl hn3 (Heap.get?_none_of_le (Nat.le_refl _)) trivial
    · show IntsAre vs2 (List.take (c2.R.length - 0) c2.R)
      rw [Nat.sub_zero, List.take_length]
      exact hi2
  have hδ : ∀ k, 0 ≤ drawOf c2.R k ∧ drawOf c2.R k < 1024 := fun k => by
    have hall : ∀ v ∈ c2.R.reverse, 0 ≤ v ∧ v < 1024 := fun v m => rowInts_in (ns.take 40) v (List.mem_of_mem_take (List.mem_reverse.mp (List.mem_reverse.mp m)))
    unfold drawOf
    rw [List.getD_eq_getElem?_getD]
    cases e : c2.R.reverse[k]? with
    | none => exact ⟨by decide, by decide⟩
    | some v => exact hall v (List.mem_of_getElem? e)
  obtain ⟨k, he⟩ := hp (drawOf c2.R) hδ
  refine law_run (c := c2) (n := 30) (sl := slLaw) (ρ := rho0 ns) (k := k) (b := true) hc2 D2 (texts_of T) hgra hRl hk (by decide +kernel) ck hA (.head _) hF he fun h' tk' bb _ => ?_
  exact hQ h' tk' bb
end Mine

end

-- P1
section
open PySem PySem.W PyProof.Rows
namespace Mine
set_option maxRecDepth 100000

noncomputable def mkS (l : List Nat) : PyData := .str ⟨l.toArray⟩
noncomputable def opN : Nat → Str
  | 0 => ⟨#[77, 79, 86]⟩ | 1 => ⟨#[76, 83, 76]⟩ | 2 => ⟨#[65, 83, 82]⟩ | 3 => ⟨#[82, 79, 82]⟩ | 4 => ⟨#[65, 78, 68]⟩ | 5 => ⟨#[65, 78, 78]⟩ | 6 => ⟨#[73, 79, 82]⟩ | 7 => ⟨#[88, 79, 82]⟩ | 8 => ⟨#[65, 68, 68]⟩ | 9 => ⟨#[83, 85, 66]⟩ | 10 => ⟨#[77, 85, 76]⟩ | _ => ⟨#[68, 73, 86]⟩
noncomputable def opIN : Nat → Str
  | 0 => ⟨#[77, 79, 86, 73]⟩ | 1 => ⟨#[76, 83, 76, 73]⟩ | 2 => ⟨#[65, 83, 82, 73]⟩ | 3 => ⟨#[82, 79, 82, 73]⟩ | 4 => ⟨#[65, 78, 68, 73]⟩ | 5 => ⟨#[65, 78, 78, 73]⟩ | 6 => ⟨#[73, 79, 82, 73]⟩ | 7 => ⟨#[88, 79, 82, 73]⟩ | 8 => ⟨#[65, 68, 68, 73]⟩ | 9 => ⟨#[83, 85, 66, 73]⟩ | 10 => ⟨#[77, 85, 76, 73]⟩ | _ => ⟨#[68, 73, 86, 73]⟩
noncomputable def memN : Nat → Str
  | 0 => ⟨#[76, 68, 82]⟩ | 1 => ⟨#[76, 68, 66]⟩ | 2 => ⟨#[83, 84, 82]⟩ | _ => ⟨#[83, 84, 66]⟩
noncomputable def brN : Nat → Str
  | 0 => ⟨#[66]⟩ | 1 => ⟨#[66, 76]⟩ | 2 => ⟨#[66, 82]⟩ | 3 => ⟨#[66, 76, 82]⟩ | _ => ⟨#[84, 82, 65, 80]⟩
noncomputable def cdN : Nat → Str
  | 0 => ⟨#[77, 73]⟩ | 1 => ⟨#[69, 81]⟩ | 2 => ⟨#[67, 83]⟩ | 3 => ⟨#[86, 83]⟩ | 4 => ⟨#[76, 83]⟩ | 5 => ⟨#[76, 84]⟩ | 6 => ⟨#[76, 69]⟩ | 7 => ⟨#[65, 76]⟩ | 8 => ⟨#[80, 76]⟩ | 9 => ⟨#[78, 69]⟩ | 10 => ⟨#[67, 67]⟩ | 11 => ⟨#[86, 67]⟩ | 12 => ⟨#[72, 73]⟩ | 13 => ⟨#[71, 69]⟩ | 14 => ⟨#[71, 84]⟩ | _ => ⟨#[78, 86]⟩
noncomputable def nGETH : Str := ⟨#[71, 69, 84, 72]⟩
noncomputable def nMOVH : Str := ⟨#[77, 79, 86, 72]⟩
noncomputable def opsL : List PyData := [.str (opN 0), .str (opN 1), .str (opN 2), .str (opN 3), .str (opN 4), .str (opN 5), .str (opN 6), .str (opN 7), .str (opN 8), .str (opN 9), .str (opN 10), .str (opN 11)]
noncomputable def memL : List PyData := [.str (memN 0), .str (memN 1), .str (memN 2), .str (memN 3)]
noncomputable def cdL : List PyData := [.str (cdN 0), .str (cdN 1), .str (cdN 2), .str (cdN 3), .str (cdN 4), .str (cdN 5), .str (cdN 6), .str (cdN 7), .str (cdN 8), .str (cdN 9), .str (cdN 10), .str (cdN 11), .str (cdN 12), .str (cdN 13), .str (cdN 14), .str (cdN 15)]

section
variable (δ : Nat → Int) (n k : Nat)
theorem s5 : evF δ tab (n + 1) 5 [] k = .ok (.d (.list cdL)) k := rfl
theorem s7 : evF δ tab (n + 1) 7 [] k = .ok (.d (.list opsL)) k := rfl
theorem s8 : evF δ tab (n + 1) 8 [] k = .ok (.d (.list memL)) k := rfl
theorem s21 : evF δ tab (n + 1) 21 [] k = .ok (.d (.list opsL)) k := rfl
theorem s22 : evF δ tab (n + 1) 22 [] k = .ok (.d (.list cdL)) k := rfl
theorem s9 (v lo hi : Int) : evF δ tab (n + 1) 9 [.d (.int v), .d (.int lo), .d (.int hi)] k = .ok (.d (.bool (decide (lo ≤ v ∧ v ≤ hi)))) k := by
  refine wF_of (P := fun o => o = _) rfl rfl rfl ?_
  conv => whnf
  split
  · conv => whnf
    simp_all [outOf]
  · conv => whnf
    simp_all [outOf]
    omega
theorem s10 (v : Int) : evF δ tab (n + 2) 10 [.d (.int v)] k = .ok (.d (.bool (decide (0 ≤ v ∧ v ≤ 15)))) k := by
  refine wF_of (P := fun o => o = _) rfl rfl rfl ?_
  conv => whnf
  simp only [s9]
  rfl
end
end Mine

end

-- P2
section
open PySem PySem.W PyProof.Rows
namespace Mine
set_option maxRecDepth 100000

inductive Rw where
  | op (j : Nat) (a b c : Int)
  | opI (j : Nat) (a b c : Int)
  | geth (a b c : Int)
  | movh (a b c : Int)
  | mem (j : Nat) (a b c : Int)
  | br (j i : Nat) (c d : Int)
noncomputable def toL : Rw → List PyData
  | .op j a b c => [.str (opN j), .int a, .int b, .int c]
  | .opI j a b c => [.str (opIN j), .int a, .int b, .int c]
  | .geth a b c => [.str nGETH, .int a, .int b, .int c]
  | .movh a b c => [.str nMOVH, .int a, .int b, .int c]
  | .mem j a b c => [.str (memN j), .int a, .int b, .int c]
  | .br j i c d => [.str (brN j), .str (cdN i), .int c, .int d]
noncomputable def okR : Rw → Prop
  | .op j _ _ _ => j < 12
  | .opI j _ _ _ => j < 12
  | .mem j _ _ _ => j < 4
  | .br j i _ _ => j < 5 ∧ i < 16
  | _ => True
noncomputable def sndR : Rw → Prop
  | .op j a b c => (0 ≤ a ∧ a ≤ 15) ∧ (0 ≤ b ∧ b ≤ 15) ∧ (j ≠ 0 ∨ b = 0) ∧ (0 ≤ c ∧ c ≤ 15)
  | .opI j a b c => (0 ≤ a ∧ a ≤ 15) ∧ (0 ≤ b ∧ b ≤ 15) ∧ (j ≠ 0 ∨ b = 0) ∧ (-65536 ≤ c ∧ c ≤ 65535)
  | .geth a b c => (0 ≤ a ∧ a ≤ 15) ∧ (0 ≤ b ∧ b ≤ 15) ∧ b = 0 ∧ (0 ≤ c ∧ c ≤ 0)
  | .movh a b c => (0 ≤ a ∧ a ≤ 15) ∧ (0 ≤ b ∧ b ≤ 15) ∧ b = 0 ∧ (0 ≤ c ∧ c ≤ 65535)
  | .mem _ a b c => (0 ≤ a ∧ a ≤ 15) ∧ (0 ≤ b ∧ b ≤ 15) ∧ (-524288 ≤ c ∧ c ≤ 524287)
  | .br j _ c d => (2 ≤ j ∨ (-8388608 ≤ c ∧ c ≤ 8388607)) ∧ (j ≤ 1 ∨ (0 ≤ c ∧ c ≤ 15)) ∧ (j ≠ 3 ∨ c ≠ 12) ∧ (4 ≤ j ∨ d = 0) ∧ (j ≠ 4 ∨ (0 ≤ d ∧ d ≤ 65535))
/-- the word of a row -/
noncomputable def wrd : Rw → Int
  | .op j a b c => a * 16777216 + b * 1048576 + (j : Int) * 65536 + c
  | .opI j a b c => a * 16777216 + b * 1048576 + 1073741824 + (if c < 0 then 268435456 else 0) + (j : Int) * 65536 + c % 65536
  | .geth a b _ => a * 16777216 + b * 1048576 + 536870912
  | .movh a b c => a * 16777216 + b * 1048576 + 1610612736 + c
  | .mem j a b c => a * 16777216 + b * 1048576 + 2147483648 + (j : Int) * 268435456 + c % 1048576
  | .br j i c d => 3221225472 + (i : Int) * 16777216 + (if j = 1 ∨ 3 ≤ j then 268435456 else 0) + (if j ≤ 1 then 536870912 + c % 16777216 else if j = 4 then d * 256 + c * 16 + 12 else c)

noncomputable def FaultIs (o : Out) (k : Nat) (p : Prop) : Prop := ∃ l : List Nat, o = .ok (.d (.str ⟨⟨l⟩⟩)) k ∧ ((l = []) ↔ p)
theorem j12 {j : Nat} (h : j < 12) : j = 0 ∨ j = 1 ∨ j = 2 ∨ j = 3 ∨ j = 4 ∨ j = 5 ∨ j = 6 ∨ j = 7 ∨ j = 8 ∨ j = 9 ∨ j = 10 ∨ j = 11 := (by decide : ∀ j, j < 12 → j = 0 ∨ j = 1 ∨ j = 2 ∨ j = 3 ∨ j = 4 ∨ j = 5 ∨ j = 6 ∨ j = 7 ∨ j = 8 ∨ j = 9 ∨ j = 10 ∨ j = 11) j h
theorem j16 {j : Nat} (h : j < 16) : j = 0 ∨ j = 1 ∨ j = 2 ∨ j = 3 ∨ j = 4 ∨ j = 5 ∨ j = 6 ∨ j = 7 ∨ j = 8 ∨ j = 9 ∨ j = 10 ∨ j = 11 ∨ j = 12 ∨ j = 13 ∨ j = 14 ∨ j = 15 := (by decide : ∀ j, j < 16 → j = 0 ∨ j = 1 ∨ j = 2 ∨ j = 3 ∨ j = 4 ∨ j = 5 ∨ j = 6 ∨ j = 7 ∨ j = 8 ∨ j = 9 ∨ j = 10 ∨ j = 11 ∨ j = 12 ∨ j = 13 ∨ j = 14 ∨ j = 15) j h
theorem j4 {j : Nat} (h : j < 4) : j = 0 ∨ j = 1 ∨ j = 2 ∨ j = 3 := (by decide : ∀ j, j < 4 → j = 0 ∨ j = 1 ∨ j = 2 ∨ j = 3) j h
theorem j5 {j : Nat} (h : j < 5) : j = 0 ∨ j = 1 ∨ j = 2 ∨ j = 3 ∨ j = 4 := (by decide : ∀ j, j < 5 → j = 0 ∨ j = 1 ∨ j = 2 ∨ j = 3 ∨ j = 4) j h

theorem j11 {j : Nat} (h : j < 12) (h0 : j ≠ 0) : j = 1 ∨ j = 2 ∨ j = 3 ∨ j = 4 ∨ j = 5 ∨ j = 6 ∨ j = 7 ∨ j = 8 ∨ j = 9 ∨ j = 10 ∨ j = 11 := (by decide : ∀ j, j < 12 → j ≠ 0 → j = 1 ∨ j = 2 ∨ j = 3 ∨ j = 4 ∨ j = 5 ∨ j = 6 ∨ j = 7 ∨ j = 8 ∨ j = 9 ∨ j = 10 ∨ j = 11) j h h0
theorem kshow {G : Prop} (G' : Prop) (h : G' = G) (x : G') : G := h ▸ x
theorem two {c : Prop} [Decidable c] {A B : Prop} (ha : c → A) (hb : ¬ c → B) : cond (decide c) A B := by
  by_cases h : c
  · rw [decide_eq_true h]
    exact ha h
  · rw [decide_eq_false h]
    exact hb h
theorem twoN {c : Prop} [Decidable c] {A B : Prop} (ha : ¬ c → A) (hb : c → B) : cond (!(decide c)) A B := by
  by_cases h : c
  · rw [decide_eq_true h]
    exact hb h
  · rw [decide_eq_false h]
    exact ha h
theorem f_bad {k c : Nat} {t : List Nat} {p : Prop} (h : ¬ p) : FaultIs (.ok (.d (.str ⟨⟨c :: t⟩⟩)) k) k p := ⟨_, rfl, fun e => (nomatch e), fun e => absurd e h⟩
theorem f_ok {k : Nat} {p : Prop} (h : p) : FaultIs (.ok (.d (.str ⟨⟨[]⟩⟩)) k) k p := ⟨_, rfl, fun _ => h, fun _ => rfl⟩
/-- the calls, the two tests of a number told by their values -/
noncomputable def cT (δ : Nat → Int) (n f : Nat) (vs : List V) (k : Nat) : Out := match f, vs with
  | 9, [.d (.int v), .d (.int lo), .d (.int hi)] => .ok (.d (.bool (decide (lo ≤ v ∧ v ≤ hi)))) k
  | 10, [.d (.int v)] => .ok (.d (.bool (decide (0 ≤ v ∧ v ≤ 15)))) k
  | f, vs => evF δ tab (n + 2) f vs k
theorem cT_eq (δ : Nat → Int) (n : Nat) : evF δ tab (n + 2) = cT δ n := by
  funext f vs k
  unfold cT
  split
  · exact s9 δ (n + 1) k _ _ _
  · exact s10 δ n k _
  · rfl
section
variable (δ : Nat → Int) (n k : Nat)
theorem s12_geth (a b c : Int) : FaultIs (evF δ tab (n + 3) 12 [.d (.tuple [.str nGETH, .int a, .int b, .int c])] k) k (sndR (.geth a b c)) := by
  refine wF_of (P := fun o => FaultIs o k _) rfl rfl rfl ?_
  rw [cT_eq]
  refine kshow (cond (!(decide (0 ≤ a ∧ a ≤ 15))) (FaultIs (.ok (.d (.str ⟨⟨[98, 97, 100, 32, 114, 101, 103, 105, 115, 116, 101, 114]⟩⟩)) k) k (sndR (.geth a b c))) (cond (!(decide (0 ≤ b ∧ b ≤ 15))) (FaultIs (.ok (.d (.str ⟨⟨[98, 97, 100, 32, 114, 101, 103, 105, 115, 116, 101, 114]⟩⟩)) k) k (sndR (.geth a b c))) (cond (!(decide (b = 0))) (FaultIs (.ok (.d (.str ⟨⟨[98, 97, 100, 32, 114, 101, 103, 105, 115, 116, 101, 114]⟩⟩)) k) k (sndR (.geth a b c))) (cond (decide (0 ≤ c ∧ c ≤ 0)) (FaultIs (.ok (.d (.str ⟨⟨[]⟩⟩)) k) k (sndR (.geth a b c))) (FaultIs (.ok (.d (.str ⟨⟨[98, 97, 100, 32, 111, 112, 101, 114, 97, 110, 100]⟩⟩)) k) k (sndR (.geth a b c))))))) ?_ (twoN (fun _ => f_bad ?_) (fun _ => twoN (fun _ => f_bad ?_) (fun _ => twoN (fun _ => f_bad ?_) (fun _ => two (fun _ => f_ok ?_) (fun _ => f_bad ?_)))))
  · kernel_rfl
  all_goals simp only [sndR]
  all_goals omega
theorem s12_movh (a b c : Int) : FaultIs (evF δ tab (n + 3) 12 [.d (.tuple [.str nMOVH, .int a, .int b, .int c])] k) k (sndR (.movh a b c)) := by
  refine wF_of (P := fun o => FaultIs o k _) rfl rfl rfl ?_
  rw [cT_eq]
  refine kshow (cond (!(decide (0 ≤ a ∧ a ≤ 15))) (FaultIs (.ok (.d (.str ⟨⟨[98, 97, 100, 32, 114, 101, 103, 105, 115, 116, 101, 114]⟩⟩)) k) k (sndR (.movh a b c))) (cond (!(decide (0 ≤ b ∧ b ≤ 15))) (FaultIs (.ok (.d (.str ⟨⟨[98, 97, 100, 32, 114, 101, 103, 105, 115, 116, 101, 114]⟩⟩)) k) k (sndR (.movh a b c))) (cond (!(decide (b = 0))) (FaultIs (.ok (.d (.str ⟨⟨[98, 97, 100, 32, 114, 101, 103, 105, 115, 116, 101, 114]⟩⟩)) k) k (sndR (.movh a b c))) (cond (decide (0 ≤ c ∧ c ≤ 65535)) (FaultIs (.ok (.d (.str ⟨⟨[]⟩⟩)) k) k (sndR (.movh a b c))) (FaultIs (.ok (.d (.str ⟨⟨[98, 97, 100, 32, 105, 109, 109, 101, 100, 105, 97, 116, 101]⟩⟩)) k) k (sndR (.movh a b c))))))) ?_ (twoN (fun _ => f_bad ?_) (fun _ => twoN (fun _ => f_bad ?_) (fun _ => twoN (fun _ => f_bad ?_) (fun _ => two (fun _ => f_ok ?_) (fun _ => f_bad ?_)))))
  · kernel_rfl
  all_goals simp only [sndR]
  all_goals omega
theorem s12_op0 (a b c : Int) : FaultIs (evF δ tab (n + 3) 12 [.d (.tuple [.str (opN 0), .int a, .int b, .int c])] k) k (sndR (.op 0 a b c)) := by
  refine wF_of (P := fun o => FaultIs o k _) rfl rfl rfl ?_
  rw [cT_eq]
  refine kshow (cond (!(decide (0 ≤ a ∧ a ≤ 15))) (FaultIs (.ok (.d (.str ⟨⟨[98, 97, 100, 32, 114, 101, 103, 105, 115, 116, 101, 114]⟩⟩)) k) k (sndR (.op 0 a b c))) (cond (!(decide (0 ≤ b ∧ b ≤ 15))) (FaultIs (.ok (.d (.str ⟨⟨[98, 97, 100, 32, 114, 101, 103, 105, 115, 116, 101, 114]⟩⟩)) k) k (sndR (.op 0 a b c))) (cond (!(decide (b = 0))) (FaultIs (.ok (.d (.str ⟨⟨[98, 97, 100, 32, 114, 101, 103, 105, 115, 116, 101, 114]⟩⟩)) k) k (sndR (.op 0 a b c))) (cond (decide (0 ≤ c ∧ c ≤ 15)) (FaultIs (.ok (.d (.str ⟨⟨[]⟩⟩)) k) k (sndR (.op 0 a b c))) (FaultIs (.ok (.d (.str ⟨⟨[98, 97, 100, 32, 114, 101, 103, 105, 115, 116, 101, 114]⟩⟩)) k) k (sndR (.op 0 a b c))))))) ?_ (twoN (fun _ => f_bad ?_) (fun _ => twoN (fun _ => f_bad ?_) (fun _ => twoN (fun _ => f_bad ?_) (fun _ => two (fun _ => f_ok ?_) (fun _ => f_bad ?_)))))
  · kernel_rfl
  all_goals simp only [sndR]
  all_goals omega
theorem s12_op1 (j : Nat) (h : j < 12) (h0 : j ≠ 0) (a b c : Int) : FaultIs (evF δ tab (n + 3) 12 [.d (.tuple [.str (opN j), .int a, .int b, .int c])] k) k (sndR (.op j a b c)) := by
  refine wF_of (P := fun o => FaultIs o k _) rfl rfl rfl ?_
  rw [cT_eq]
  refine kshow (cond (!(decide (0 ≤ a ∧ a ≤ 15))) (FaultIs (.ok (.d (.str ⟨⟨[98, 97, 100, 32, 114, 101, 103, 105, 115, 116, 101, 114]⟩⟩)) k) k (sndR (.op j a b c))) (cond (!(decide (0 ≤ b ∧ b ≤ 15))) (FaultIs (.ok (.d (.str ⟨⟨[98, 97, 100, 32, 114, 101, 103, 105, 115, 116, 101, 114]⟩⟩)) k) k (sndR (.op j a b c))) (cond (decide (0 ≤ c ∧ c ≤ 15)) (FaultIs (.ok (.d (.str ⟨⟨[]⟩⟩)) k) k (sndR (.op j a b c))) (FaultIs (.ok (.d (.str ⟨⟨[98, 97, 100, 32, 114, 101, 103, 105, 115, 116, 101, 114]⟩⟩)) k) k (sndR (.op j a b c)))))) ?_ (twoN (fun _ => f_bad ?_) (fun _ => twoN (fun _ => f_bad ?_) (fun _ => two (fun _ => f_ok ?_) (fun _ => f_bad ?_))))
  · rcases j11 h h0 with rfl | rfl | rfl | rfl | rfl | rfl | rfl | rfl | rfl | rfl | rfl <;> kernel_rfl
  all_goals simp only [sndR]
  all_goals omega
theorem s12_opI0 (a b c : Int) : FaultIs (evF δ tab (n + 3) 12 [.d (.tuple [.str (opIN 0), .int a, .int b, .int c])] k) k (sndR (.opI 0 a b c)) := by
  refine wF_of (P := fun o => FaultIs o k _) rfl rfl rfl ?_
  rw [cT_eq]
  refine kshow (cond (!(decide (0 ≤ a ∧ a ≤ 15))) (FaultIs (.ok (.d (.str ⟨⟨[98, 97, 100, 32, 114, 101, 103, 105, 115, 116, 101, 114]⟩⟩)) k) k (sndR (.opI 0 a b c))) (cond (!(decide (0 ≤ b ∧ b ≤ 15))) (FaultIs (.ok (.d (.str ⟨⟨[98, 97, 100, 32, 114, 101, 103, 105, 115, 116, 101, 114]⟩⟩)) k) k (sndR (.opI 0 a b c))) (cond (!(decide (b = 0))) (FaultIs (.ok (.d (.str ⟨⟨[98, 97, 100, 32, 114, 101, 103, 105, 115, 116, 101, 114]⟩⟩)) k) k (sndR (.opI 0 a b c))) (cond (decide (-65536 ≤ c ∧ c ≤ 65535)) (FaultIs (.ok (.d (.str ⟨⟨[]⟩⟩)) k) k (sndR (.opI 0 a b c))) (FaultIs (.ok (.d (.str ⟨⟨[98, 97, 100, 32, 105, 109, 109, 101, 100, 105, 97, 116, 101]⟩⟩)) k) k (sndR (.opI 0 a b c))))))) ?_ (twoN (fun _ => f_bad ?_) (fun _ => twoN (fun _ => f_bad ?_) (fun _ => twoN (fun _ => f_bad ?_) (fun _ => two (fun _ => f_ok ?_) (fun _ => f_bad ?_)))))
  · kernel_rfl
  all_goals simp only [sndR]
  all_goals omega
theorem s12_opI1 (j : Nat) (h : j < 12) (h0 : j ≠ 0) (a b c : Int) : FaultIs (evF δ tab (n + 3) 12 [.d (.tuple [.str (opIN j), .int a, .int b, .int c])] k) k (sndR (.opI j a b c)) := by
  refine wF_of (P := fun o => FaultIs o k _) rfl rfl rfl ?_
  rw [cT_eq]
  refine kshow (cond (!(decide (0 ≤ a ∧ a ≤ 15))) (FaultIs (.ok (.d (.str ⟨⟨[98, 97, 100, 32, 114, 101, 103, 105, 115, 116, 101, 114]⟩⟩)) k) k (sndR (.opI j a b c))) (cond (!(decide (0 ≤ b ∧ b ≤ 15))) (FaultIs (.ok (.d (.str ⟨⟨[98, 97, 100, 32, 114, 101, 103, 105, 115, 116, 101, 114]⟩⟩)) k) k (sndR (.opI j a b c))) (cond (decide (-65536 ≤ c ∧ c ≤ 65535)) (FaultIs (.ok (.d (.str ⟨⟨[]⟩⟩)) k) k (sndR (.opI j a b c))) (FaultIs (.ok (.d (.str ⟨⟨[98, 97, 100, 32, 105, 109, 109, 101, 100, 105, 97, 116, 101]⟩⟩)) k) k (sndR (.opI j a b c)))))) ?_ (twoN (fun _ => f_bad ?_) (fun _ => twoN (fun _ => f_bad ?_) (fun _ => two (fun _ => f_ok ?_) (fun _ => f_bad ?_))))
  · rcases j11 h h0 with rfl | rfl | rfl | rfl | rfl | rfl | rfl | rfl | rfl | rfl | rfl <;> kernel_rfl
  all_goals simp only [sndR]
  all_goals omega
theorem s12_op (j : Nat) (h : j < 12) (a b c : Int) : FaultIs (evF δ tab (n + 3) 12 [.d (.tuple [.str (opN j), .int a, .int b, .int c])] k) k (sndR (.op j a b c)) := by
  by_cases h0 : j = 0
  · subst h0
    exact s12_op0 δ n k a b c
  · exact s12_op1 δ n k j h h0 a b c
theorem s12_opI (j : Nat) (h : j < 12) (a b c : Int) : FaultIs (evF δ tab (n + 3) 12 [.d (.tuple [.str (opIN j), .int a, .int b, .int c])] k) k (sndR (.opI j a b c)) := by
  by_cases h0 : j = 0
  · subst h0
    exact s12_opI0 δ n k a b c
  · exact s12_opI1 δ n k j h h0 a b c
theorem s13 (j : Nat) (a b c : Int) : FaultIs (evF δ tab (n + 3) 13 [.d (.tuple [.str (memN j), .int a, .int b, .int c])] k) k (sndR (.mem j a b c)) := by
  refine wF_of (P := fun o => FaultIs o k _) rfl rfl rfl ?_
  rw [cT_eq]
  refine kshow (cond (!(decide (0 ≤ a ∧ a ≤ 15))) (FaultIs (.ok (.d (.str ⟨⟨[98, 97, 100, 32, 114, 101, 103, 105, 115, 116, 101, 114]⟩⟩)) k) k (sndR (.mem j a b c))) (cond (!(decide (0 ≤ b ∧ b ≤ 15))) (FaultIs (.ok (.d (.str ⟨⟨[98, 97, 100, 32, 114, 101, 103, 105, 115, 116, 101, 114]⟩⟩)) k) k (sndR (.mem j a b c))) (cond (decide (-524288 ≤ c ∧ c ≤ 524287)) (FaultIs (.ok (.d (.str ⟨⟨[]⟩⟩)) k) k (sndR (.mem j a b c))) (FaultIs (.ok (.d (.str ⟨⟨[98, 97, 100, 32, 111, 102, 102, 115, 101, 116]⟩⟩)) k) k (sndR (.mem j a b c)))))) ?_ (twoN (fun _ => f_bad ?_) (fun _ => twoN (fun _ => f_bad ?_) (fun _ => two (fun _ => f_ok ?_) (fun _ => f_bad ?_))))
  · kernel_rfl
  all_goals simp only [sndR]
  all_goals omega
theorem s14_0 (i : Nat) (h : i < 16) (c d : Int) : FaultIs (evF δ tab (n + 3) 14 [.d (.tuple [.str (brN 0), .str (cdN i), .int c, .int d])] k) k (sndR (.br 0 i c d)) := by
  refine wF_of (P := fun o => FaultIs o k _) rfl rfl rfl ?_
  rw [cT_eq]
  refine kshow (cond (!(decide (0 ≤ d ∧ d ≤ 0))) (FaultIs (.ok (.d (.str ⟨⟨[98, 97, 100, 32, 111, 112, 101, 114, 97, 110, 100]⟩⟩)) k) k (sndR (.br 0 i c d))) (cond (decide (-8388608 ≤ c ∧ c ≤ 8388607)) (FaultIs (.ok (.d (.str ⟨⟨[]⟩⟩)) k) k (sndR (.br 0 i c d))) (FaultIs (.ok (.d (.str ⟨⟨[98, 97, 100, 32, 111, 102, 102, 115, 101, 116]⟩⟩)) k) k (sndR (.br 0 i c d))))) ?_ (twoN (fun _ => f_bad ?_) (fun _ => two (fun _ => f_ok ?_) (fun _ => f_bad ?_)))
  · rcases j16 h with rfl | rfl | rfl | rfl | rfl | rfl | rfl | rfl | rfl | rfl | rfl | rfl | rfl | rfl | rfl | rfl <;> kernel_rfl
  all_goals simp only [sndR]
  all_goals omega
theorem s14_1 (i : Nat) (h : i < 16) (c d : Int) : FaultIs (evF δ tab (n + 3) 14 [.d (.tuple [.str (brN 1), .str (cdN i), .int c, .int d])] k) k (sndR (.br 1 i c d)) := by
  refine wF_of (P := fun o => FaultIs o k _) rfl rfl rfl ?_
  rw [cT_eq]
  refine kshow (cond (!(decide (0 ≤ d ∧ d ≤ 0))) (FaultIs (.ok (.d (.str ⟨⟨[98, 97, 100, 32, 111, 112, 101, 114, 97, 110, 100]⟩⟩)) k) k (sndR (.br 1 i c d))) (cond (decide (-8388608 ≤ c ∧ c ≤ 8388607)) (FaultIs (.ok (.d (.str ⟨⟨[]⟩⟩)) k) k (sndR (.br 1 i c d))) (FaultIs (.ok (.d (.str ⟨⟨[98, 97, 100, 32, 111, 102, 102, 115, 101, 116]⟩⟩)) k) k (sndR (.br 1 i c d))))) ?_ (twoN (fun _ => f_bad ?_) (fun _ => two (fun _ => f_ok ?_) (fun _ => f_bad ?_)))
  · rcases j16 h with rfl | rfl | rfl | rfl | rfl | rfl | rfl | rfl | rfl | rfl | rfl | rfl | rfl | rfl | rfl | rfl <;> kernel_rfl
  all_goals simp only [sndR]
  all_goals omega
theorem s14_2 (i : Nat) (h : i < 16) (c d : Int) : FaultIs (evF δ tab (n + 3) 14 [.d (.tuple [.str (brN 2), .str (cdN i), .int c, .int d])] k) k (sndR (.br 2 i c d)) := by
  refine wF_of (P := fun o => FaultIs o k _) rfl rfl rfl ?_
  rw [cT_eq]
  refine kshow (cond (!(decide (0 ≤ d ∧ d ≤ 0))) (FaultIs (.ok (.d (.str ⟨⟨[98, 97, 100, 32, 111, 112, 101, 114, 97, 110, 100]⟩⟩)) k) k (sndR (.br 2 i c d))) (cond (!(decide (0 ≤ c ∧ c ≤ 15))) (FaultIs (.ok (.d (.str ⟨⟨[98, 97, 100, 32, 114, 101, 103, 105, 115, 116, 101, 114]⟩⟩)) k) k (sndR (.br 2 i c d))) (FaultIs (.ok (.d (.str ⟨⟨[]⟩⟩)) k) k (sndR (.br 2 i c d))))) ?_ (twoN (fun _ => f_bad ?_) (fun _ => twoN (fun _ => f_bad ?_) (fun _ => f_ok ?_)))
  · rcases j16 h with rfl | rfl | rfl | rfl | rfl | rfl | rfl | rfl | rfl | rfl | rfl | rfl | rfl | rfl | rfl | rfl <;> kernel_rfl
  all_goals simp only [sndR]
  all_goals omega
theorem s14_3 (i : Nat) (h : i < 16) (c d : Int) : FaultIs (evF δ tab (n + 3) 14 [.d (.tuple [.str (brN 3), .str (cdN i), .int c, .int d])] k) k (sndR (.br 3 i c d)) := by
  refine wF_of (P := fun o => FaultIs o k _) rfl rfl rfl ?_
  rw [cT_eq]
  refine kshow (cond (!(decide (0 ≤ d ∧ d ≤ 0))) (FaultIs (.ok (.d (.str ⟨⟨[98, 97, 100, 32, 111, 112, 101, 114, 97, 110, 100]⟩⟩)) k) k (sndR (.br 3 i c d))) (cond (!(decide (0 ≤ c ∧ c ≤ 15))) (FaultIs (.ok (.d (.str ⟨⟨[98, 97, 100, 32, 114, 101, 103, 105, 115, 116, 101, 114]⟩⟩)) k) k (sndR (.br 3 i c d))) (cond (decide (c = 12)) (FaultIs (.ok (.d (.str ⟨⟨[98, 97, 100, 32, 114, 101, 103, 105, 115, 116, 101, 114]⟩⟩)) k) k (sndR (.br 3 i c d))) (FaultIs (.ok (.d (.str ⟨⟨[]⟩⟩)) k) k (sndR (.br 3 i c d)))))) ?_ (twoN (fun _ => f_bad ?_) (fun _ => twoN (fun _ => f_bad ?_) (fun _ => two (fun _ => f_bad ?_) (fun _ => f_ok ?_))))
  · rcases j16 h with rfl | rfl | rfl | rfl | rfl | rfl | rfl | rfl | rfl | rfl | rfl | rfl | rfl | rfl | rfl | rfl <;> kernel_rfl
  all_goals simp only [sndR]
  all_goals omega
theorem s14_4 (i : Nat) (h : i < 16) (c d : Int) : FaultIs (evF δ tab (n + 3) 14 [.d (.tuple [.str (brN 4), .str (cdN i), .int c, .int d])] k) k (sndR (.br 4 i c d)) := by
  refine wF_of (P := fun o => FaultIs o k _) rfl rfl rfl ?_
  rw [cT_eq]
  refine kshow (cond (!(decide (0 ≤ c ∧ c ≤ 15))) (FaultIs (.ok (.d (.str ⟨⟨[98, 97, 100, 32, 116, 114, 97, 112]⟩⟩)) k) k (sndR (.br 4 i c d))) (cond (decide (0 ≤ d ∧ d ≤ 65535)) (FaultIs (.ok (.d (.str ⟨⟨[]⟩⟩)) k) k (sndR (.br 4 i c d))) (FaultIs (.ok (.d (.str ⟨⟨[98, 97, 100, 32, 112, 108, 97, 99, 101]⟩⟩)) k) k (sndR (.br 4 i c d))))) ?_ (twoN (fun _ => f_bad ?_) (fun _ => two (fun _ => f_ok ?_) (fun _ => f_bad ?_)))
  · rcases j16 h with rfl | rfl | rfl | rfl | rfl | rfl | rfl | rfl | rfl | rfl | rfl | rfl | rfl | rfl | rfl | rfl <;> kernel_rfl
  all_goals simp only [sndR]
  all_goals omega
end
end Mine

end

-- P3
section
open PySem PySem.W PyProof.Rows
namespace Mine
set_option maxRecDepth 100000
section
variable (δ : Nat → Int) (n k : Nat)
theorem s15 (r : Rw) (h : okR r) : FaultIs (evF δ tab (n + 4) 15 [.d (.tuple (toL r))] k) k (sndR r) := by
  cases r with
  | op j a b c =>
    obtain ⟨l, e, hl⟩ := s12_op δ n k j h a b c
    refine wF_of (P := fun o => FaultIs o k _) rfl rfl rfl ?_
    rcases j12 h with rfl | rfl | rfl | rfl | rfl | rfl | rfl | rfl | rfl | rfl | rfl | rfl <;> clear h
    all_goals repeat' (first | exact ⟨_, rfl, hl⟩ | ((conv => whnf); simp only [toL, e]) | ((conv => whnf); split))
  | opI j a b c =>
    obtain ⟨l, e, hl⟩ := s12_opI δ n k j h a b c
    refine wF_of (P := fun o => FaultIs o k _) rfl rfl rfl ?_
    rcases j12 h with rfl | rfl | rfl | rfl | rfl | rfl | rfl | rfl | rfl | rfl | rfl | rfl <;> clear h
    all_goals repeat' (first | exact ⟨_, rfl, hl⟩ | ((conv => whnf); simp only [toL, e]) | ((conv => whnf); split))
  | geth a b c =>
    obtain ⟨l, e, hl⟩ := s12_geth δ n k a b c
    refine wF_of (P := fun o => FaultIs o k _) rfl rfl rfl ?_
    all_goals repeat' (first | exact ⟨_, rfl, hl⟩ | ((conv => whnf); simp only [toL, e]) | ((conv => whnf); split))
  | movh a b c =>
    obtain ⟨l, e, hl⟩ := s12_movh δ n k a b c
    refine wF_of (P := fun o => FaultIs o k _) rfl rfl rfl ?_
    all_goals repeat' (first | exact ⟨_, rfl, hl⟩ | ((conv => whnf); simp only [toL, e]) | ((conv => whnf); split))
  | mem j a b c =>
    obtain ⟨l, e, hl⟩ := s13 δ n k j a b c
    refine wF_of (P := fun o => FaultIs o k _) rfl rfl rfl ?_
    rcases j4 h with rfl | rfl | rfl | rfl <;> clear h
    all_goals repeat' (first | exact ⟨_, rfl, hl⟩ | ((conv => whnf); simp only [toL, e]) | ((conv => whnf); split))
  | br j i c d =>
    obtain ⟨h1, h2⟩ := h
    obtain ⟨l, e, hl⟩ : FaultIs (evF δ tab (n + 3) 14 [.d (.tuple [.str (brN j), .str (cdN i), .int c, .int d])] k) k (sndR (.br j i c d)) := by
      rcases j5 h1 with rfl | rfl | rfl | rfl | rfl
      · exact s14_0 δ n k i h2 c d
      · exact s14_1 δ n k i h2 c d
      · exact s14_2 δ n k i h2 c d
      · exact s14_3 δ n k i h2 c d
      · exact s14_4 δ n k i h2 c d
    refine wF_of (P := fun o => FaultIs o k _) rfl rfl rfl ?_
    rcases j5 h1 with rfl | rfl | rfl | rfl | rfl <;> clear h1
    all_goals repeat' (first | exact ⟨_, rfl, hl⟩ | ((conv => whnf); simp only [toL, e]) | ((conv => whnf); split))
end
end Mine

end

-- P4
section
open PySem PySem.W PyProof.Rows
namespace Mine
set_option maxRecDepth 100000
noncomputable def BoolIs (o : Out) (k : Nat) (p : Prop) : Prop := ∃ b : Bool, o = .ok (.d (.bool b)) k ∧ ((b = true) ↔ p)
theorem b_v {k : Nat} {c p : Prop} [Decidable c] (h : c ↔ p) : BoolIs (.ok (.d (.bool (decide c))) k) k p := ⟨_, rfl, decide_eq_true_iff.trans h⟩
theorem b_nv {k : Nat} {c p : Prop} [Decidable c] (h : ¬ c ↔ p) : BoolIs (.ok (.d (.bool (!(decide c)))) k) k p := ⟨_, rfl, by rw [Bool.not_eq_true', decide_eq_false_iff_not]; exact h⟩
theorem b_t {k : Nat} {p : Prop} (h : p) : BoolIs (.ok (.d (.bool true)) k) k p := ⟨_, rfl, fun _ => h, fun _ => rfl⟩
theorem b_f {k : Nat} {p : Prop} (h : ¬ p) : BoolIs (.ok (.d (.bool false)) k) k p := ⟨_, rfl, fun e => (nomatch e), fun e => absurd e h⟩
section
variable (δ : Nat → Int) (n k : Nat)
theorem s25_geth (a b c : Int) : BoolIs (evF δ tab (n + 2) 25 [.d (.tuple (toL (.geth a b c)))] k) k (sndR (.geth a b c)) := by
  refine wF_of (P := fun o => BoolIs o k _) rfl rfl rfl ?_
  refine kshow (cond (decide (0 ≤ a)) (cond (!(decide (a < 16))) (BoolIs (.ok (.d (.bool false)) k) k (sndR (.geth a b c))) (cond (decide (0 ≤ b)) (cond (!(decide (b < 16))) (BoolIs (.ok (.d (.bool false)) k) k (sndR (.geth a b c))) (cond (!(decide (b = 0))) (BoolIs (.ok (.d (.bool false)) k) k (sndR (.geth a b c))) (cond (decide (0 ≤ c)) (BoolIs (.ok (.d (.bool (decide (c < 1)))) k) k (sndR (.geth a b c))) (BoolIs (.ok (.d (.bool false)) k) k (sndR (.geth a b c)))))) (BoolIs (.ok (.d (.bool false)) k) k (sndR (.geth a b c))))) (BoolIs (.ok (.d (.bool false)) k) k (sndR (.geth a b c)))) ?_ (two (fun _ => twoN (fun _ => b_f ?_) (fun _ => two (fun _ => twoN (fun _ => b_f ?_) (fun _ => twoN (fun _ => b_f ?_) (fun _ => two (fun _ => b_v ?_) (fun _ => b_f ?_)))) (fun _ => b_f ?_))) (fun _ => b_f ?_))
  · kernel_rfl
  all_goals simp only [sndR]
  all_goals omega
theorem s25_movh (a b c : Int) : BoolIs (evF δ tab (n + 2) 25 [.d (.tuple (toL (.movh a b c)))] k) k (sndR (.movh a b c)) := by
  refine wF_of (P := fun o => BoolIs o k _) rfl rfl rfl ?_
  refine kshow (cond (decide (0 ≤ a)) (cond (!(decide (a < 16))) (BoolIs (.ok (.d (.bool false)) k) k (sndR (.movh a b c))) (cond (decide (0 ≤ b)) (cond (!(decide (b < 16))) (BoolIs (.ok (.d (.bool false)) k) k (sndR (.movh a b c))) (cond (!(decide (b = 0))) (BoolIs (.ok (.d (.bool false)) k) k (sndR (.movh a b c))) (cond (decide (0 ≤ c)) (BoolIs (.ok (.d (.bool (decide (c < 65536)))) k) k (sndR (.movh a b c))) (BoolIs (.ok (.d (.bool false)) k) k (sndR (.movh a b c)))))) (BoolIs (.ok (.d (.bool false)) k) k (sndR (.movh a b c))))) (BoolIs (.ok (.d (.bool false)) k) k (sndR (.movh a b c)))) ?_ (two (fun _ => twoN (fun _ => b_f ?_) (fun _ => two (fun _ => twoN (fun _ => b_f ?_) (fun _ => twoN (fun _ => b_f ?_) (fun _ => two (fun _ => b_v ?_) (fun _ => b_f ?_)))) (fun _ => b_f ?_))) (fun _ => b_f ?_))
  · kernel_rfl
  all_goals simp only [sndR]
  all_goals omega
theorem s25_op0 (a b c : Int) : BoolIs (evF δ tab (n + 2) 25 [.d (.tuple (toL (.op 0 a b c)))] k) k (sndR (.op 0 a b c)) := by
  refine wF_of (P := fun o => BoolIs o k _) rfl rfl rfl ?_
  refine kshow (cond (decide (0 ≤ a)) (cond (!(decide (a < 16))) (BoolIs (.ok (.d (.bool false)) k) k (sndR (.op 0 a b c))) (cond (decide (0 ≤ b)) (cond (!(decide (b < 16))) (BoolIs (.ok (.d (.bool false)) k) k (sndR (.op 0 a b c))) (cond (!(decide (b = 0))) (BoolIs (.ok (.d (.bool false)) k) k (sndR (.op 0 a b c))) (cond (decide (0 ≤ c)) (BoolIs (.ok (.d (.bool (decide (c < 16)))) k) k (sndR (.op 0 a b c))) (BoolIs (.ok (.d (.bool false)) k) k (sndR (.op 0 a b c)))))) (BoolIs (.ok (.d (.bool false)) k) k (sndR (.op 0 a b c))))) (BoolIs (.ok (.d (.bool false)) k) k (sndR (.op 0 a b c)))) ?_ (two (fun _ => twoN (fun _ => b_f ?_) (fun _ => two (fun _ => twoN (fun _ => b_f ?_) (fun _ => twoN (fun _ => b_f ?_) (fun _ => two (fun _ => b_v ?_) (fun _ => b_f ?_)))) (fun _ => b_f ?_))) (fun _ => b_f ?_))
  · kernel_rfl
  all_goals simp only [sndR]
  all_goals omega
theorem s25_op1 (j : Nat) (h : j < 12) (h0 : j ≠ 0) (a b c : Int) : BoolIs (evF δ tab (n + 2) 25 [.d (.tuple (toL (.op j a b c)))] k) k (sndR (.op j a b c)) := by
  refine wF_of (P := fun o => BoolIs o k _) rfl rfl rfl ?_
  refine kshow (cond (decide (0 ≤ a)) (cond (!(decide (a < 16))) (BoolIs (.ok (.d (.bool false)) k) k (sndR (.op j a b c))) (cond (decide (0 ≤ b)) (cond (!(decide (b < 16))) (BoolIs (.ok (.d (.bool false)) k) k (sndR (.op j a b c))) (cond (decide (0 ≤ c)) (BoolIs (.ok (.d (.bool (decide (c < 16)))) k) k (sndR (.op j a b c))) (BoolIs (.ok (.d (.bool false)) k) k (sndR (.op j a b c))))) (BoolIs (.ok (.d (.bool false)) k) k (sndR (.op j a b c))))) (BoolIs (.ok (.d (.bool false)) k) k (sndR (.op j a b c)))) ?_ (two (fun _ => twoN (fun _ => b_f ?_) (fun _ => two (fun _ => twoN (fun _ => b_f ?_) (fun _ => two (fun _ => b_v ?_) (fun _ => b_f ?_))) (fun _ => b_f ?_))) (fun _ => b_f ?_))
  · rcases j11 h h0 with rfl | rfl | rfl | rfl | rfl | rfl | rfl | rfl | rfl | rfl | rfl <;> kernel_rfl
  all_goals simp only [sndR]
  all_goals omega
theorem s25_opI0 (a b c : Int) : BoolIs (evF δ tab (n + 2) 25 [.d (.tuple (toL (.opI 0 a b c)))] k) k (sndR (.opI 0 a b c)) := by
  refine wF_of (P := fun o => BoolIs o k _) rfl rfl rfl ?_
  refine kshow (cond (decide (0 ≤ a)) (cond (!(decide (a < 16))) (BoolIs (.ok (.d (.bool false)) k) k (sndR (.opI 0 a b c))) (cond (decide (0 ≤ b)) (cond (!(decide (b < 16))) (BoolIs (.ok (.d (.bool false)) k) k (sndR (.opI 0 a b c))) (cond (!(decide (b = 0))) (BoolIs (.ok (.d (.bool false)) k) k (sndR (.opI 0 a b c))) (cond (decide (-65536 ≤ c)) (BoolIs (.ok (.d (.bool (decide (c < 65536)))) k) k (sndR (.opI 0 a b c))) (BoolIs (.ok (.d (.bool false)) k) k (sndR (.opI 0 a b c)))))) (BoolIs (.ok (.d (.bool false)) k) k (sndR (.opI 0 a b c))))) (BoolIs (.ok (.d (.bool false)) k) k (sndR (.opI 0 a b c)))) ?_ (two (fun _ => twoN (fun _ => b_f ?_) (fun _ => two (fun _ => twoN (fun _ => b_f ?_) (fun _ => twoN (fun _ => b_f ?_) (fun _ => two (fun _ => b_v ?_) (fun _ => b_f ?_)))) (fun _ => b_f ?_))) (fun _ => b_f ?_))
  · kernel_rfl
  all_goals simp only [sndR]
  all_goals omega
theorem s25_opI1 (j : Nat) (h : j < 12) (h0 : j ≠ 0) (a b c : Int) : BoolIs (evF δ tab (n + 2) 25 [.d (.tuple (toL (.opI j a b c)))] k) k (sndR (.opI j a b c)) := by
  refine wF_of (P := fun o => BoolIs o k _) rfl rfl rfl ?_
  refine kshow (cond (decide (0 ≤ a)) (cond (!(decide (a < 16))) (BoolIs (.ok (.d (.bool false)) k) k (sndR (.opI j a b c))) (cond (decide (0 ≤ b)) (cond (!(decide (b < 16))) (BoolIs (.ok (.d (.bool false)) k) k (sndR (.opI j a b c))) (cond (decide (-65536 ≤ c)) (BoolIs (.ok (.d (.bool (decide (c < 65536)))) k) k (sndR (.opI j a b c))) (BoolIs (.ok (.d (.bool false)) k) k (sndR (.opI j a b c))))) (BoolIs (.ok (.d (.bool false)) k) k (sndR (.opI j a b c))))) (BoolIs (.ok (.d (.bool false)) k) k (sndR (.opI j a b c)))) ?_ (two (fun _ => twoN (fun _ => b_f ?_) (fun _ => two (fun _ => twoN (fun _ => b_f ?_) (fun _ => two (fun _ => b_v ?_) (fun _ => b_f ?_))) (fun _ => b_f ?_))) (fun _ => b_f ?_))
  · rcases j11 h h0 with rfl | rfl | rfl | rfl | rfl | rfl | rfl | rfl | rfl | rfl | rfl <;> kernel_rfl
  all_goals simp only [sndR]
  all_goals omega
theorem s25_mem (j : Nat) (h : j < 4) (a b c : Int) : BoolIs (evF δ tab (n + 2) 25 [.d (.tuple (toL (.mem j a b c)))] k) k (sndR (.mem j a b c)) := by
  refine wF_of (P := fun o => BoolIs o k _) rfl rfl rfl ?_
  refine kshow (cond (decide (0 ≤ a)) (cond (!(decide (a < 16))) (BoolIs (.ok (.d (.bool false)) k) k (sndR (.mem j a b c))) (cond (decide (0 ≤ b)) (cond (!(decide (b < 16))) (BoolIs (.ok (.d (.bool false)) k) k (sndR (.mem j a b c))) (cond (decide (-524288 ≤ c)) (BoolIs (.ok (.d (.bool (decide (c < 524288)))) k) k (sndR (.mem j a b c))) (BoolIs (.ok (.d (.bool false)) k) k (sndR (.mem j a b c))))) (BoolIs (.ok (.d (.bool false)) k) k (sndR (.mem j a b c))))) (BoolIs (.ok (.d (.bool false)) k) k (sndR (.mem j a b c)))) ?_ (two (fun _ => twoN (fun _ => b_f ?_) (fun _ => two (fun _ => twoN (fun _ => b_f ?_) (fun _ => two (fun _ => b_v ?_) (fun _ => b_f ?_))) (fun _ => b_f ?_))) (fun _ => b_f ?_))
  · rcases j4 h with rfl | rfl | rfl | rfl <;> kernel_rfl
  all_goals simp only [sndR]
  all_goals omega
theorem s25_br0 (i : Nat) (c d : Int) : BoolIs (evF δ tab (n + 2) 25 [.d (.tuple (toL (.br 0 i c d)))] k) k (sndR (.br 0 i c d)) := by
  refine wF_of (P := fun o => BoolIs o k _) rfl rfl rfl ?_
  refine kshow (cond (decide (-8388608 ≤ c)) (cond (decide (c < 8388608)) (BoolIs (.ok (.d (.bool (decide (d = 0)))) k) k (sndR (.br 0 i c d))) (BoolIs (.ok (.d (.bool false)) k) k (sndR (.br 0 i c d)))) (BoolIs (.ok (.d (.bool false)) k) k (sndR (.br 0 i c d)))) ?_ (two (fun _ => two (fun _ => b_v ?_) (fun _ => b_f ?_)) (fun _ => b_f ?_))
  · kernel_rfl
  all_goals simp only [sndR]
  all_goals omega
theorem s25_br1 (i : Nat) (c d : Int) : BoolIs (evF δ tab (n + 2) 25 [.d (.tuple (toL (.br 1 i c d)))] k) k (sndR (.br 1 i c d)) := by
  refine wF_of (P := fun o => BoolIs o k _) rfl rfl rfl ?_
  refine kshow (cond (decide (-8388608 ≤ c)) (cond (decide (c < 8388608)) (BoolIs (.ok (.d (.bool (decide (d = 0)))) k) k (sndR (.br 1 i c d))) (BoolIs (.ok (.d (.bool false)) k) k (sndR (.br 1 i c d)))) (BoolIs (.ok (.d (.bool false)) k) k (sndR (.br 1 i c d)))) ?_ (two (fun _ => two (fun _ => b_v ?_) (fun _ => b_f ?_)) (fun _ => b_f ?_))
  · kernel_rfl
  all_goals simp only [sndR]
  all_goals omega
theorem s25_br2 (i : Nat) (c d : Int) : BoolIs (evF δ tab (n + 2) 25 [.d (.tuple (toL (.br 2 i c d)))] k) k (sndR (.br 2 i c d)) := by
  refine wF_of (P := fun o => BoolIs o k _) rfl rfl rfl ?_
  refine kshow (cond (decide (0 ≤ c)) (cond (decide (c < 16)) (cond (decide (d = 0)) (BoolIs (.ok (.d (.bool true)) k) k (sndR (.br 2 i c d))) (BoolIs (.ok (.d (.bool false)) k) k (sndR (.br 2 i c d)))) (BoolIs (.ok (.d (.bool false)) k) k (sndR (.br 2 i c d)))) (BoolIs (.ok (.d (.bool false)) k) k (sndR (.br 2 i c d)))) ?_ (two (fun _ => two (fun _ => two (fun _ => b_t ?_) (fun _ => b_f ?_)) (fun _ => b_f ?_)) (fun _ => b_f ?_))
  · kernel_rfl
  all_goals simp only [sndR]
  all_goals omega
theorem s25_br3 (i : Nat) (c d : Int) : BoolIs (evF δ tab (n + 2) 25 [.d (.tuple (toL (.br 3 i c d)))] k) k (sndR (.br 3 i c d)) := by
  refine wF_of (P := fun o => BoolIs o k _) rfl rfl rfl ?_
  refine kshow (cond (decide (0 ≤ c)) (cond (decide (c < 16)) (cond (decide (d = 0)) (BoolIs (.ok (.d (.bool (!(decide (c = 12))))) k) k (sndR (.br 3 i c d))) (BoolIs (.ok (.d (.bool false)) k) k (sndR (.br 3 i c d)))) (BoolIs (.ok (.d (.bool false)) k) k (sndR (.br 3 i c d)))) (BoolIs (.ok (.d (.bool false)) k) k (sndR (.br 3 i c d)))) ?_ (two (fun _ => two (fun _ => two (fun _ => b_nv ?_) (fun _ => b_f ?_)) (fun _ => b_f ?_)) (fun _ => b_f ?_))
  · kernel_rfl
  all_goals simp only [sndR]
  all_goals omega
theorem s25_br4 (i : Nat) (c d : Int) : BoolIs (evF δ tab (n + 2) 25 [.d (.tuple (toL (.br 4 i c d)))] k) k (sndR (.br 4 i c d)) := by
  refine wF_of (P := fun o => BoolIs o k _) rfl rfl rfl ?_
  refine kshow (cond (decide (0 ≤ c)) (cond (decide (c < 16)) (cond (decide (0 ≤ d)) (BoolIs (.ok (.d (.bool (decide (d < 65536)))) k) k (sndR (.br 4 i c d))) (BoolIs (.ok (.d (.bool false)) k) k (sndR (.br 4 i c d)))) (BoolIs (.ok (.d (.bool false)) k) k (sndR (.br 4 i c d)))) (BoolIs (.ok (.d (.bool false)) k) k (sndR (.br 4 i c d)))) ?_ (two (fun _ => two (fun _ => two (fun _ => b_v ?_) (fun _ => b_f ?_)) (fun _ => b_f ?_)) (fun _ => b_f ?_))
  · kernel_rfl
  all_goals simp only [sndR]
  all_goals omega
theorem s25 (r : Rw) (h : okR r) : BoolIs (evF δ tab (n + 2) 25 [.d (.tuple (toL r))] k) k (sndR r) := by
  cases r with
  | op j a b c =>
    by_cases h0 : j = 0
    · subst h0
      exact s25_op0 δ n k a b c
    · exact s25_op1 δ n k j h h0 a b c
  | opI j a b c =>
    by_cases h0 : j = 0
    · subst h0
      exact s25_opI0 δ n k a b c
    · exact s25_opI1 δ n k j h h0 a b c
  | geth a b c => exact s25_geth δ n k a b c
  | movh a b c => exact s25_movh δ n k a b c
  | mem j a b c => exact s25_mem δ n k j h a b c
  | br j i c d =>
    rcases j5 h.1 with rfl | rfl | rfl | rfl | rfl
    · exact s25_br0 δ n k i c d
    · exact s25_br1 δ n k i c d
    · exact s25_br2 δ n k i c d
    · exact s25_br3 δ n k i c d
    · exact s25_br4 δ n k i c d
end
end Mine

end

-- P5
section
open PySem PySem.W PyProof.Rows
namespace Mine
set_option maxRecDepth 100000
set_option maxHeartbeats 4000000
theorem fm2 (c : Int) : c.fmod 2 = c % 2 := Int.fmod_eq_emod_of_nonneg c (by decide)
theorem fm4 (c : Int) : c.fmod 4 = c % 4 := Int.fmod_eq_emod_of_nonneg c (by decide)
theorem fm16 (c : Int) : c.fmod 16 = c % 16 := Int.fmod_eq_emod_of_nonneg c (by decide)
theorem fm65536 (c : Int) : c.fmod 65536 = c % 65536 := Int.fmod_eq_emod_of_nonneg c (by decide)
theorem fm20 (c : Int) : c.fmod 1048576 = c % 1048576 := Int.fmod_eq_emod_of_nonneg c (by decide)
theorem fm24 (c : Int) : c.fmod 16777216 = c % 16777216 := Int.fmod_eq_emod_of_nonneg c (by decide)
theorem fm32 (c : Int) : c.fmod 4294967296 = c % 4294967296 := Int.fmod_eq_emod_of_nonneg c (by decide)
theorem fd4 (c : Int) : c.fdiv 16 = c / 16 := Int.fdiv_eq_ediv_of_nonneg c (by decide)
theorem fd8 (c : Int) : c.fdiv 256 = c / 256 := Int.fdiv_eq_ediv_of_nonneg c (by decide)
theorem fd16 (c : Int) : c.fdiv 65536 = c / 65536 := Int.fdiv_eq_ediv_of_nonneg c (by decide)
theorem fd20 (c : Int) : c.fdiv 1048576 = c / 1048576 := Int.fdiv_eq_ediv_of_nonneg c (by decide)
theorem fd24 (c : Int) : c.fdiv 16777216 = c / 16777216 := Int.fdiv_eq_ediv_of_nonneg c (by decide)
theorem fd28 (c : Int) : c.fdiv 268435456 = c / 268435456 := Int.fdiv_eq_ediv_of_nonneg c (by decide)
theorem fd29 (c : Int) : c.fdiv 536870912 = c / 536870912 := Int.fdiv_eq_ediv_of_nonneg c (by decide)
theorem fd30 (c : Int) : c.fdiv 1073741824 = c / 1073741824 := Int.fdiv_eq_ediv_of_nonneg c (by decide)

noncomputable def IntIs (o : Out) (k : Nat) (v : Int) : Prop := ∃ x : Int, o = .ok (.d (.int x)) k ∧ x = v
theorem IntIs.eq {o : Out} {k : Nat} {v : Int} (h : IntIs o k v) : o = .ok (.d (.int v)) k := by
  obtain ⟨x, e, rfl⟩ := h
  exact e
section
variable (δ : Nat → Int) (n k : Nat)
theorem s26_br (j i : Nat) (h1 : j < 5) (h2 : i < 16) (c d : Int) : IntIs (evF δ tab (n + 2) 26 [.d (.tuple [.str (brN j), .str (cdN i), .int c, .int d])] k) k (wrd (.br j i c d)) := by
  rcases j5 h1 with rfl | rfl | rfl | rfl | rfl <;> clear h1
  · refine ⟨3221225472 + (i : Int) * 16777216 + 0 + 536870912 + c.fmod 16777216, ?_, ?_⟩
    · rcases j16 h2 with rfl | rfl | rfl | rfl | rfl | rfl | rfl | rfl | rfl | rfl | rfl | rfl | rfl | rfl | rfl | rfl <;> kernel_rfl
    · rw [wrd, if_neg (by decide), if_pos (by decide), fm24]
      try omega
  · refine ⟨3221225472 + (i : Int) * 16777216 + 268435456 + 536870912 + c.fmod 16777216, ?_, ?_⟩
    · rcases j16 h2 with rfl | rfl | rfl | rfl | rfl | rfl | rfl | rfl | rfl | rfl | rfl | rfl | rfl | rfl | rfl | rfl <;> kernel_rfl
    · rw [wrd, if_pos (by decide), if_pos (by decide), fm24]
      try omega
  · refine ⟨3221225472 + (i : Int) * 16777216 + 0 + c, ?_, ?_⟩
    · rcases j16 h2 with rfl | rfl | rfl | rfl | rfl | rfl | rfl | rfl | rfl | rfl | rfl | rfl | rfl | rfl | rfl | rfl <;> kernel_rfl
    · rw [wrd, if_neg (by decide), if_neg (by decide), if_neg (by decide)]
      try omega
  · refine ⟨3221225472 + (i : Int) * 16777216 + 268435456 + c, ?_, ?_⟩
    · rcases j16 h2 with rfl | rfl | rfl | rfl | rfl | rfl | rfl | rfl | rfl | rfl | rfl | rfl | rfl | rfl | rfl | rfl <;> kernel_rfl
    · rw [wrd, if_pos (by decide), if_neg (by decide), if_neg (by decide)]
      try omega
  · refine ⟨3221225472 + (i : Int) * 16777216 + 268435456 + (d * 256 + c * 16 + 12), ?_, ?_⟩
    · rcases j16 h2 with rfl | rfl | rfl | rfl | rfl | rfl | rfl | rfl | rfl | rfl | rfl | rfl | rfl | rfl | rfl | rfl <;> kernel_rfl
    · rw [wrd, if_pos (by decide), if_neg (by decide), if_pos (by decide)]
      try omega
theorem s26_op (j : Nat) (h : j < 12) (a b c : Int) : IntIs (evF δ tab (n + 2) 26 [.d (.tuple [.str (opN j), .int a, .int b, .int c])] k) k (wrd (.op j a b c)) := by
  refine ⟨a * 16777216 + b * 1048576 + (j : Int) * 65536 + c, ?_, rfl⟩
  rcases j12 h with rfl | rfl | rfl | rfl | rfl | rfl | rfl | rfl | rfl | rfl | rfl | rfl <;> kernel_rfl
theorem s26_opI (j : Nat) (h : j < 12) (a b c : Int) : IntIs (evF δ tab (n + 2) 26 [.d (.tuple [.str (opIN j), .int a, .int b, .int c])] k) k (wrd (.opI j a b c)) := by
  refine wF_of (P := fun o => IntIs o k _) rfl rfl rfl ?_
  refine kshow (cond (decide (c < 0)) (IntIs (.ok (.d (.int (a * 16777216 + b * 1048576 + 1073741824 + 268435456 + (j : Int) * 65536 + c.fmod 65536))) k) k (wrd (.opI j a b c))) (IntIs (.ok (.d (.int (a * 16777216 + b * 1048576 + 1073741824 + 0 + (j : Int) * 65536 + c.fmod 65536))) k) k (wrd (.opI j a b c)))) ?_ (two (fun hc => ⟨_, rfl, ?_⟩) (fun hc => ⟨_, rfl, ?_⟩))
  · rcases j12 h with rfl | rfl | rfl | rfl | rfl | rfl | rfl | rfl | rfl | rfl | rfl | rfl <;> kernel_rfl
  · simp only [wrd, hc, fm65536, if_true]
  · simp only [wrd, hc, fm65536, if_false]
theorem s26_mem (j : Nat) (h : j < 4) (a b c : Int) : IntIs (evF δ tab (n + 2) 26 [.d (.tuple [.str (memN j), .int a, .int b, .int c])] k) k (wrd (.mem j a b c)) := by
  rcases j4 h with rfl | rfl | rfl | rfl
  · refine ⟨a * 16777216 + b * 1048576 + 2147483648 + 0 + 0 + c.fmod 1048576, by kernel_rfl, ?_⟩
    simp only [wrd, fm20]
    omega
  · refine ⟨a * 16777216 + b * 1048576 + 2147483648 + 0 + 268435456 + c.fmod 1048576, by kernel_rfl, ?_⟩
    simp only [wrd, fm20]
    omega
  · refine ⟨a * 16777216 + b * 1048576 + 2147483648 + 536870912 + 0 + c.fmod 1048576, by kernel_rfl, ?_⟩
    simp only [wrd, fm20]
    omega
  · refine ⟨a * 16777216 + b * 1048576 + 2147483648 + 536870912 + 268435456 + c.fmod 1048576, by kernel_rfl, ?_⟩
    simp only [wrd, fm20]
    omega
theorem s26 (r : Rw) (h : okR r) : IntIs (evF δ tab (n + 2) 26 [.d (.tuple (toL r))] k) k (wrd r) := by
  cases r with
  | op j a b c => exact s26_op δ n k j h a b c
  | opI j a b c => exact s26_opI δ n k j h a b c
  | geth a b c => exact ⟨a * 16777216 + b * 1048576 + 536870912, by kernel_rfl, rfl⟩
  | movh a b c =>
    refine ⟨a * 16777216 + b * 1048576 + 1073741824 + 536870912 + c, by kernel_rfl, ?_⟩
    simp only [wrd]
    omega
  | mem j a b c => exact s26_mem δ n k j h a b c
  | br j i c d => exact s26_br δ n k j i h.1 h.2 c d
theorem s17 (j i : Nat) (h1 : j < 5) (h2 : i < 16) (c d : Int) : IntIs (evF δ tab (n + 2) 17 [.d (.tuple [.str (brN j), .str (cdN i), .int c, .int d])] k) k (wrd (.br j i c d)) := by
  rcases j5 h1 with rfl | rfl | rfl | rfl | rfl <;> clear h1
  · refine ⟨3221225472 + (i : Int) * 16777216 + 536870912 + c.fmod 16777216, ?_, ?_⟩
    · rcases j16 h2 with rfl | rfl | rfl | rfl | rfl | rfl | rfl | rfl | rfl | rfl | rfl | rfl | rfl | rfl | rfl | rfl <;> kernel_rfl
    · rw [wrd, if_neg (by decide), if_pos (by decide), fm24]
      try omega
  · refine ⟨3221225472 + (i : Int) * 16777216 + 268435456 + 536870912 + c.fmod 16777216, ?_, ?_⟩
    · rcases j16 h2 with rfl | rfl | rfl | rfl | rfl | rfl | rfl | rfl | rfl | rfl | rfl | rfl | rfl | rfl | rfl | rfl <;> kernel_rfl
    · rw [wrd, if_pos (by decide), if_pos (by decide), fm24]
      try omega
  · refine ⟨3221225472 + (i : Int) * 16777216 + c, ?_, ?_⟩
    · rcases j16 h2 with rfl | rfl | rfl | rfl | rfl | rfl | rfl | rfl | rfl | rfl | rfl | rfl | rfl | rfl | rfl | rfl <;> kernel_rfl
    · rw [wrd, if_neg (by decide), if_neg (by decide), if_neg (by decide)]
      try omega
  · refine ⟨3221225472 + (i : Int) * 16777216 + 268435456 + c, ?_, ?_⟩
    · rcases j16 h2 with rfl | rfl | rfl | rfl | rfl | rfl | rfl | rfl | rfl | rfl | rfl | rfl | rfl | rfl | rfl | rfl <;> kernel_rfl
    · rw [wrd, if_pos (by decide), if_neg (by decide), if_neg (by decide)]
      try omega
  · refine ⟨3221225472 + (i : Int) * 16777216 + 268435456 + d * 256 + c * 16 + 12, ?_, ?_⟩
    · rcases j16 h2 with rfl | rfl | rfl | rfl | rfl | rfl | rfl | rfl | rfl | rfl | rfl | rfl | rfl | rfl | rfl | rfl <;> kernel_rfl
    · rw [wrd, if_pos (by decide), if_neg (by decide), if_pos (by decide)]
      try omega
theorem s16_opI (j : Nat) (h : j < 12) (a b c : Int) (hc : -65536 ≤ c ∧ c ≤ 65535) : IntIs (evF δ tab (n + 2) 16 [.d (.tuple [.str (opIN j), .int a, .int b, .int c])] k) k (wrd (.opI j a b c)) := by
  refine wF_of (P := fun o => IntIs o k _) rfl rfl rfl ?_
  refine kshow (cond (decide (c < 0)) (IntIs (.ok (.d (.int (1342177280 + (a * 16777216 + b * 1048576 + (j : Int) * 65536) + c + 65536))) k) k (wrd (.opI j a b c))) (IntIs (.ok (.d (.int (1073741824 + (a * 16777216 + b * 1048576 + (j : Int) * 65536) + c))) k) k (wrd (.opI j a b c)))) ?_ (two (fun hc => ⟨_, rfl, ?_⟩) (fun hc => ⟨_, rfl, ?_⟩))
  · rcases j12 h with rfl | rfl | rfl | rfl | rfl | rfl | rfl | rfl | rfl | rfl | rfl | rfl <;> kernel_rfl
  · simp only [wrd, hc, if_true]
    omega
  · simp only [wrd, hc, if_false]
    omega
theorem s16_geth (a b c : Int) : IntIs (evF δ tab (n + 2) 16 [.d (.tuple [.str nGETH, .int a, .int b, .int c])] k) k (wrd (.geth a b c)) := by
  refine ⟨536870912 + (a * 16777216 + b * 1048576), by kernel_rfl, ?_⟩
  simp only [wrd]
  omega
theorem s16_movh (a b c : Int) : IntIs (evF δ tab (n + 2) 16 [.d (.tuple [.str nMOVH, .int a, .int b, .int c])] k) k (wrd (.movh a b c)) := by
  refine ⟨1610612736 + (a * 16777216 + b * 1048576) + c, by kernel_rfl, ?_⟩
  simp only [wrd]
  omega
end
end Mine

end

-- P6
section
open PySem PySem.W PyProof.Rows
namespace Mine
set_option maxRecDepth 100000
set_option maxHeartbeats 4000000
section
variable (δ : Nat → Int) (n k : Nat)
theorem s3_bad (r : Rw) (h : okR r) (hs : ¬ sndR r) : evF δ tab (n + 5) 3 [.d (.tuple (toL r))] k = .exc k := by
  obtain ⟨l, e, hl⟩ := s15 δ n k r h
  refine wF_of (P := fun o => o = _) rfl rfl rfl ?_
  cases l with
  | nil => exact absurd (hl.mp rfl) hs
  | cons x t =>
    conv => whnf
    simp only [e]
    rfl
theorem s3_ok (r : Rw) (h : okR r) (hs : sndR r) : evF δ tab (n + 5) 3 [.d (.tuple (toL r))] k = .ok (.d (.int (wrd r))) k := by
  obtain ⟨l, e, hl⟩ := s15 δ n k r h
  obtain rfl := hl.mpr hs
  cases r with
  | op j a b c =>
    refine IntIs.eq ?_
    refine wF_of (P := fun o => IntIs o k _) rfl rfl rfl ?_
    conv => whnf
    simp only [e]
    rcases j12 h with rfl | rfl | rfl | rfl | rfl | rfl | rfl | rfl | rfl | rfl | rfl | rfl <;> clear h
    all_goals (conv => whnf)
    all_goals refine ⟨_, rfl, ?_⟩
    all_goals simp only [wrd, Int.reduceToNat, Int.reducePow, fm65536, fm20, fm24, Int.ofNat_eq_natCast]
    all_goals (repeat' split) <;> first | omega | simp_all
  | opI j a b c =>
    have e2 := (s16_opI δ (n + 2) k j h a b c hs.2.2.2).eq
    refine wF_of (P := fun o => o = _) rfl rfl rfl ?_
    conv => whnf
    simp only [e]
    rcases j12 h with rfl | rfl | rfl | rfl | rfl | rfl | rfl | rfl | rfl | rfl | rfl | rfl <;> clear h
    all_goals (conv => whnf)
    all_goals simp only [toL, e2]
    all_goals rfl
  | geth a b c =>
    refine IntIs.eq ?_
    refine wF_of (P := fun o => IntIs o k _) rfl rfl rfl ?_
    conv => whnf
    simp only [e]
    all_goals (conv => whnf)
    all_goals refine ⟨_, rfl, ?_⟩
    all_goals simp only [wrd, Int.reduceToNat, Int.reducePow, fm65536, fm20, fm24, Int.ofNat_eq_natCast]
    all_goals (repeat' split) <;> first | omega | simp_all
  | movh a b c =>
    refine IntIs.eq ?_
    refine wF_of (P := fun o => IntIs o k _) rfl rfl rfl ?_
    conv => whnf
    simp only [e]
    all_goals (conv => whnf)
    all_goals refine ⟨_, rfl, ?_⟩
    all_goals simp only [wrd, Int.reduceToNat, Int.reducePow, fm65536, fm20, fm24, Int.ofNat_eq_natCast]
    all_goals (repeat' split) <;> first | omega | simp_all
  | mem j a b c =>
    refine IntIs.eq ?_
    refine wF_of (P := fun o => IntIs o k _) rfl rfl rfl ?_
    conv => whnf
    simp only [e]
    rcases j4 h with rfl | rfl | rfl | rfl <;> clear h
    all_goals (conv => whnf)
    all_goals refine ⟨_, rfl, ?_⟩
    all_goals simp only [wrd, Int.reduceToNat, Int.reducePow, fm65536, fm20, fm24, Int.ofNat_eq_natCast]
    all_goals (repeat' split) <;> first | omega | simp_all
  | br j i c d =>
    have e2 := (s17 δ (n + 2) k j i h.1 h.2 c d).eq
    refine wF_of (P := fun o => o = _) rfl rfl rfl ?_
    conv => whnf
    simp only [e]
    rcases j5 h.1 with rfl | rfl | rfl | rfl | rfl <;> clear h
    all_goals (conv => whnf)
    all_goals simp only [toL, e2]
    all_goals rfl
end
end Mine

end

-- P7
section
open PySem PySem.W PyProof.Rows
namespace Mine
set_option maxRecDepth 100000
set_option maxHeartbeats 4000000

noncomputable def sg20 (x : Int) : Int := if 524288 ≤ x then x - 1048576 else x
noncomputable def sg24 (x : Int) : Int := if 8388608 ≤ x then x - 16777216 else x
noncomputable def RowIs (o : Out) (k : Nat) (rd : Option Rw) : Prop := (o = .exc k ∧ rd = none) ∨ ∃ r, o = .ok (.d (.tuple (toL r))) k ∧ rd = some r
noncomputable def brRow (w : Int) : Rw :=
  if w / 536870912 % 2 = 1 then .br (w / 268435456 % 2).toNat (w / 16777216 % 16).toNat (sg24 (w % 16777216)) 0
  else if w / 268435456 % 2 = 1 ∧ w % 16 = 12 then .br 4 (w / 16777216 % 16).toNat (w / 16 % 16) (w / 256 % 65536)
  else .br (2 + (w / 268435456 % 2).toNat) (w / 16777216 % 16).toNat (w % 16) 0
noncomputable def opRow (w : Int) : Option Rw :=
  if 12 ≤ w / 65536 % 16 then none
  else if w < 1073741824 then (if w / 536870912 % 2 = 1 ∧ w / 65536 % 16 = 0 then some (.geth (w / 16777216 % 16) (w / 1048576 % 16) 0) else some (.op (w / 65536 % 16).toNat (w / 16777216 % 16) (w / 1048576 % 16) (w % 16)))
  else if w / 536870912 % 2 = 1 ∧ w / 65536 % 16 = 0 then some (.movh (w / 16777216 % 16) (w / 1048576 % 16) (w % 65536))
  else some (.opI (w / 65536 % 16).toNat (w / 16777216 % 16) (w / 1048576 % 16) (if w / 268435456 % 2 = 1 then w % 65536 - 65536 else w % 65536))
theorem n16 (x : Int) : ∃ i : Nat, i < 16 ∧ x.fmod 16 = (i : Int) := ⟨(x.fmod 16).toNat, by rw [fm16]; omega, by rw [fm16]; omega⟩
theorem q16 (x : Int) : x.fmod 16 = 0 ∨ x.fmod 16 = 1 ∨ x.fmod 16 = 2 ∨ x.fmod 16 = 3 ∨ x.fmod 16 = 4 ∨ x.fmod 16 = 5 ∨ x.fmod 16 = 6 ∨ x.fmod 16 = 7 ∨ x.fmod 16 = 8 ∨ x.fmod 16 = 9 ∨ x.fmod 16 = 10 ∨ x.fmod 16 = 11 ∨ x.fmod 16 = 12 ∨ x.fmod 16 = 13 ∨ x.fmod 16 = 14 ∨ x.fmod 16 = 15 := by
  obtain ⟨i, hi, e⟩ := n16 x
  rw [e]
  exact (by decide : ∀ i : Nat, i < 16 → (i : Int) = 0 ∨ (i : Int) = 1 ∨ (i : Int) = 2 ∨ (i : Int) = 3 ∨ (i : Int) = 4 ∨ (i : Int) = 5 ∨ (i : Int) = 6 ∨ (i : Int) = 7 ∨ (i : Int) = 8 ∨ (i : Int) = 9 ∨ (i : Int) = 10 ∨ (i : Int) = 11 ∨ (i : Int) = 12 ∨ (i : Int) = 13 ∨ (i : Int) = 14 ∨ (i : Int) = 15) i hi
theorem q2 (x : Int) : x.fmod 2 = 0 ∨ x.fmod 2 = 1 := by rw [fm2]; omega
theorem q4 (x : Int) : x.fmod 4 = 0 ∨ x.fmod 4 = 1 ∨ x.fmod 4 = 2 ∨ x.fmod 4 = 3 := by rw [fm4]; omega
theorem i12 {i : Nat} (h : i < 16) (h2 : 12 ≤ i) : i = 12 ∨ i = 13 ∨ i = 14 ∨ i = 15 := by omega
theorem i11 {i : Nat} (h : ¬ 12 ≤ i) (h0 : i ≠ 0) : i = 1 ∨ i = 2 ∨ i = 3 ∨ i = 4 ∨ i = 5 ∨ i = 6 ∨ i = 7 ∨ i = 8 ∨ i = 9 ∨ i = 10 ∨ i = 11 := j11 (Nat.lt_of_not_le h) h0
section
variable (δ : Nat → Int) (n k : Nat)
theorem s18_20 (v : Int) : IntIs (evF δ tab (n + 1) 18 [.d (.int v), .d (.int 20)] k) k (sg20 v) := by
  refine wF_of (P := fun o => IntIs o k _) rfl rfl rfl ?_
  refine kshow (cond (decide (v ≥ 524288)) (IntIs (.ok (.d (.int (v - 1048576))) k) k (sg20 v)) (IntIs (.ok (.d (.int v)) k) k (sg20 v))) (by kernel_rfl) (two (fun h => ⟨_, rfl, ?_⟩) (fun h => ⟨_, rfl, ?_⟩))
  · rw [sg20, if_pos (by omega)]
  · rw [sg20, if_neg (by omega)]
theorem s18_24 (v : Int) : IntIs (evF δ tab (n + 1) 18 [.d (.int v), .d (.int 24)] k) k (sg24 v) := by
  refine wF_of (P := fun o => IntIs o k _) rfl rfl rfl ?_
  refine kshow (cond (decide (v ≥ 8388608)) (IntIs (.ok (.d (.int (v - 16777216))) k) k (sg24 v)) (IntIs (.ok (.d (.int v)) k) k (sg24 v))) (by kernel_rfl) (two (fun h => ⟨_, rfl, ?_⟩) (fun h => ⟨_, rfl, ?_⟩))
  · rw [sg24, if_pos (by omega)]
  · rw [sg24, if_neg (by omega)]
theorem s19 (w : Int) : RowIs (evF δ tab (n + 2) 19 [.d (.int w)] k) k (opRow w) := by
  refine wF_of (P := fun o => RowIs o k _) rfl rfl rfl ?_
  obtain ⟨i, hi, e⟩ := n16 (w.fdiv 65536)
  conv => whnf
  simp only [e]
  by_cases h12 : 12 ≤ i
  · refine kshow (RowIs (.exc k) k (opRow w)) ?_ (Or.inl ⟨rfl, ?_⟩)
    · rcases i12 hi h12 with rfl | rfl | rfl | rfl <;> kernel_rfl
    · rw [fd16, fm16] at e
      rw [opRow, if_pos (by omega)]
  by_cases h0 : i = 0
  · subst h0
    refine kshow (cond (decide (w < 1073741824)) (cond (decide ((w.fdiv 536870912).fmod 2 = 1)) (RowIs (.ok (.d (.tuple (toL (.geth ((w.fdiv 16777216).fmod 16) ((w.fdiv 1048576).fmod 16) 0)))) k) k (opRow w)) (RowIs (.ok (.d (.tuple (toL (.op 0 ((w.fdiv 16777216).fmod 16) ((w.fdiv 1048576).fmod 16) (w.fmod 16))))) k) k (opRow w))) (cond (decide ((w.fdiv 536870912).fmod 2 = 1)) (RowIs (.ok (.d (.tuple (toL (.movh ((w.fdiv 16777216).fmod 16) ((w.fdiv 1048576).fmod 16) (w.fmod 65536))))) k) k (opRow w)) (cond (decide ((w.fdiv 268435456).fmod 2 = 1)) (RowIs (.ok (.d (.tuple (toL (.opI 0 ((w.fdiv 16777216).fmod 16) ((w.fdiv 1048576).fmod 16) (w.fmod 65536 - 65536))))) k) k (opRow w)) (RowIs (.ok (.d (.tuple (toL (.opI 0 ((w.fdiv 16777216).fmod 16) ((w.fdiv 1048576).fmod 16) (w.fmod 65536))))) k) k (opRow w))))) (by kernel_rfl) (two (fun _ => two (fun _ => Or.inr ⟨_, rfl, ?_⟩) (fun _ => Or.inr ⟨_, rfl, ?_⟩)) (fun _ => two (fun _ => Or.inr ⟨_, rfl, ?_⟩) (fun _ => two (fun _ => Or.inr ⟨_, rfl, ?_⟩) (fun _ => Or.inr ⟨_, rfl, ?_⟩))))
    all_goals simp only [opRow, Int.reduceToNat, Int.reducePow, fd4, fd8, fd16, fd20, fd24, fd28, fd29, fd30, fm2, fm16, fm20, fm24, fm65536, ge_iff_le] at *
    all_goals (repeat' split) <;> first | omega | (simp only [Option.some.injEq, Rw.op.injEq, Rw.opI.injEq, Rw.geth.injEq, Rw.movh.injEq, reduceCtorEq, and_true, true_and]; done) | (simp only [Option.some.injEq, Rw.op.injEq, Rw.opI.injEq, Rw.geth.injEq, Rw.movh.injEq, reduceCtorEq, and_true, true_and]; omega)
  · refine kshow (cond (decide (w < 1073741824)) (cond (decide ((w.fdiv 536870912).fmod 2 = 1)) (RowIs (.ok (.d (.tuple (toL (.op i ((w.fdiv 16777216).fmod 16) ((w.fdiv 1048576).fmod 16) (w.fmod 16))))) k) k (opRow w)) (RowIs (.ok (.d (.tuple (toL (.op i ((w.fdiv 16777216).fmod 16) ((w.fdiv 1048576).fmod 16) (w.fmod 16))))) k) k (opRow w))) (cond (decide ((w.fdiv 536870912).fmod 2 = 1)) (cond (decide ((w.fdiv 268435456).fmod 2 = 1)) (RowIs (.ok (.d (.tuple (toL (.opI i ((w.fdiv 16777216).fmod 16) ((w.fdiv 1048576).fmod 16) (w.fmod 65536 - 65536))))) k) k (opRow w)) (RowIs (.ok (.d (.tuple (toL (.opI i ((w.fdiv 16777216).fmod 16) ((w.fdiv 1048576).fmod 16) (w.fmod 65536))))) k) k (opRow w))) (cond (decide ((w.fdiv 268435456).fmod 2 = 1)) (RowIs (.ok (.d (.tuple (toL (.opI i ((w.fdiv 16777216).fmod 16) ((w.fdiv 1048576).fmod 16) (w.fmod 65536 - 65536))))) k) k (opRow w)) (RowIs (.ok (.d (.tuple (toL (.opI i ((w.fdiv 16777216).fmod 16) ((w.fdiv 1048576).fmod 16) (w.fmod 65536))))) k) k (opRow w))))) ?_ (two (fun _ => two (fun _ => Or.inr ⟨_, rfl, ?_⟩) (fun _ => Or.inr ⟨_, rfl, ?_⟩)) (fun _ => two (fun _ => two (fun _ => Or.inr ⟨_, rfl, ?_⟩) (fun _ => Or.inr ⟨_, rfl, ?_⟩)) (fun _ => two (fun _ => Or.inr ⟨_, rfl, ?_⟩) (fun _ => Or.inr ⟨_, rfl, ?_⟩))))
    · rcases i11 h12 h0 with rfl | rfl | rfl | rfl | rfl | rfl | rfl | rfl | rfl | rfl | rfl <;> kernel_rfl
    all_goals simp only [opRow, Int.reduceToNat, Int.reducePow, fd4, fd8, fd16, fd20, fd24, fd28, fd29, fd30, fm2, fm16, fm20, fm24, fm65536, ge_iff_le] at *
    all_goals (repeat' split) <;> first | omega | (simp only [Option.some.injEq, Rw.op.injEq, Rw.opI.injEq, Rw.geth.injEq, Rw.movh.injEq, reduceCtorEq, and_true, true_and]; done) | (simp only [Option.some.injEq, Rw.op.injEq, Rw.opI.injEq, Rw.geth.injEq, Rw.movh.injEq, reduceCtorEq, and_true, true_and]; omega)
end
end Mine

end

-- P8
section
open PySem PySem.W PyProof.Rows
namespace Mine
set_option maxRecDepth 100000
set_option maxHeartbeats 4000000
theorem s18_24e (δ : Nat → Int) (n k : Nat) (v : Int) : evF δ tab (n + 1) 18 [.d (.int v), .d (.int 24)] k = .ok (.d (.int (sg24 v))) k := (s18_24 δ n k v).eq
theorem s18_20e (δ : Nat → Int) (n k : Nat) (v : Int) : evF δ tab (n + 1) 18 [.d (.int v), .d (.int 20)] k = .ok (.d (.int (sg20 v))) k := (s18_20 δ n k v).eq
noncomputable def brS : MSs := match b_branch_row with | .cons _ r => r | _ => .nil
section
variable (δ : Nat → Int) (n k : Nat)
theorem s20 (w : Int) : RowIs (evF δ tab (n + 2) 20 [.d (.int w)] k) k (some (brRow w)) := by
  refine wF_of (P := fun o => RowIs o k _) rfl rfl rfl ?_
  obtain ⟨i, hi, e⟩ := n16 (w.fdiv 16777216)
  conv => whnf
  simp only [e]
  refine kshow (wSs (evF δ tab (n + 1)) brS [.d (.int w), .d (.str (cdN i)), .un] k (fun r => RowIs (outOf r) k (some (brRow w)))) ?_ ?_
  · rcases j16 hi with rfl | rfl | rfl | rfl | rfl | rfl | rfl | rfl | rfl | rfl | rfl | rfl | rfl | rfl | rfl | rfl <;> kernel_rfl
  rcases q2 (w.fdiv 536870912) with e1 | e1 <;> rcases q2 (w.fdiv 268435456) with e2 | e2
  all_goals (conv => whnf)
  all_goals simp only [e1]
  all_goals (conv => whnf)
  all_goals simp only [e2, s18_24e]
  · repeat' (first | ((conv => whnf); simp only [s18_24e]) | ((conv => whnf); split) | refine Or.inr ⟨.br 2 i _ _, rfl, ?_⟩)
    all_goals simp only [brRow, decide_eq_true_eq, decide_eq_false_iff_not, Int.reduceToNat, Int.reducePow, fd4, fd8, fd16, fd20, fd24, fd28, fd29, fd30, fm2, fm16, fm20, fm24, fm65536, ge_iff_le] at *
    all_goals (repeat' split) <;> first | omega | (simp only [Option.some.injEq, Rw.br.injEq, reduceCtorEq, and_true, true_and]; done) | (simp only [Option.some.injEq, Rw.br.injEq, reduceCtorEq, and_true, true_and]; omega)
  · repeat' (first | ((conv => whnf); simp only [s18_24e]) | ((conv => whnf); split) | refine Or.inr ⟨.br 3 i _ _, rfl, ?_⟩ | refine Or.inr ⟨.br 4 i _ _, rfl, ?_⟩)
    all_goals simp only [brRow, decide_eq_true_eq, decide_eq_false_iff_not, Int.reduceToNat, Int.reducePow, fd4, fd8, fd16, fd20, fd24, fd28, fd29, fd30, fm2, fm16, fm20, fm24, fm65536, ge_iff_le] at *
    all_goals (repeat' split) <;> first | omega | (simp only [Option.some.injEq, Rw.br.injEq, reduceCtorEq, and_true, true_and]; done) | (simp only [Option.some.injEq, Rw.br.injEq, reduceCtorEq, and_true, true_and]; omega)
  · repeat' (first | ((conv => whnf); simp only [s18_24e]) | ((conv => whnf); split) | refine Or.inr ⟨.br 0 i _ _, rfl, ?_⟩)
    all_goals simp only [brRow, decide_eq_true_eq, decide_eq_false_iff_not, Int.reduceToNat, Int.reducePow, fd4, fd8, fd16, fd20, fd24, fd28, fd29, fd30, fm2, fm16, fm20, fm24, fm65536, ge_iff_le] at *
    all_goals (repeat' split) <;> first | omega | (simp only [Option.some.injEq, Rw.br.injEq, reduceCtorEq, and_true, true_and]; done) | (simp only [Option.some.injEq, Rw.br.injEq, reduceCtorEq, and_true, true_and]; omega)
  · repeat' (first | ((conv => whnf); simp only [s18_24e]) | ((conv => whnf); split) | refine Or.inr ⟨.br 1 i _ _, rfl, ?_⟩)
    all_goals simp only [brRow, decide_eq_true_eq, decide_eq_false_iff_not, Int.reduceToNat, Int.reducePow, fd4, fd8, fd16, fd20, fd24, fd28, fd29, fd30, fm2, fm16, fm20, fm24, fm65536, ge_iff_le] at *
    all_goals (repeat' split) <;> first | omega | (simp only [Option.some.injEq, Rw.br.injEq, reduceCtorEq, and_true, true_and]; done) | (simp only [Option.some.injEq, Rw.br.injEq, reduceCtorEq, and_true, true_and]; omega)
end
end Mine

end

-- P9
section
open PySem PySem.W PyProof.Rows
namespace Mine
set_option maxRecDepth 100000
set_option maxHeartbeats 4000000
noncomputable def memRow (w : Int) : Rw := .mem (w / 268435456 % 4).toNat (w / 16777216 % 16) (w / 1048576 % 16) (sg20 (w % 1048576))
noncomputable def opRowL (w : Int) : Option Rw :=
  if 12 ≤ w / 65536 % 16 then none
  else if w / 536870912 % 2 = 1 then (if w / 65536 % 16 = 0 then (if w < 1073741824 then some (.geth (w / 16777216 % 16) (w / 1048576 % 16) 0) else some (.movh (w / 16777216 % 16) (w / 1048576 % 16) (w % 65536))) else none)
  else if w < 1073741824 then some (.op (w / 65536 % 16).toNat (w / 16777216 % 16) (w / 1048576 % 16) (w % 16))
  else some (.opI (w / 65536 % 16).toNat (w / 16777216 % 16) (w / 1048576 % 16) (if w / 268435456 % 2 = 1 then w % 65536 - 65536 else w % 65536))
noncomputable def ReadIs (o : Out) (k : Nat) (rd : Option Rw) : Prop := (o = .ok (.d .none) k ∧ rd = none) ∨ ∃ r, o = .ok (.d (.tuple (toL r))) k ∧ rd = some r
section
variable (δ : Nat → Int) (n k : Nat)
theorem s27B (w : Int) (h1 : 2147483648 ≤ w) (h2 : w < 3221225472) : ReadIs (evF δ tab (n + 2) 27 [.d (.int w)] k) k (some (memRow w)) := by
  have e3 : w.fdiv 1073741824 = 2 := by rw [fd30]; omega
  refine wF_of (P := fun o => ReadIs o k _) rfl rfl rfl ?_
  conv => whnf
  rcases q2 (w.fdiv 536870912) with e1 | e1 <;> rcases q2 (w.fdiv 268435456) with e2 | e2
  all_goals simp only [Int.reduceToNat, Int.reducePow, e1, e2, e3]
  · refine kshow (cond (decide (w.fmod 1048576 ≥ 524288)) (ReadIs (.ok (.d (.tuple (toL (.mem 0 ((w.fdiv 16777216).fmod 16) ((w.fdiv 1048576).fmod 16) (w.fmod 1048576 - 1048576))))) k) k (some (memRow w))) (ReadIs (.ok (.d (.tuple (toL (.mem 0 ((w.fdiv 16777216).fmod 16) ((w.fdiv 1048576).fmod 16) (w.fmod 1048576))))) k) k (some (memRow w)))) (by kernel_rfl) (two (fun _ => Or.inr ⟨_, rfl, ?_⟩) (fun _ => Or.inr ⟨_, rfl, ?_⟩))
    all_goals simp only [memRow, sg20, Int.reduceToNat, Int.reducePow, fd4, fd8, fd16, fd20, fd24, fd28, fd29, fd30, fm2, fm16, fm20, fm24, fm65536, ge_iff_le] at *
    all_goals (repeat' split) <;> first | omega | (simp only [Option.some.injEq, Rw.mem.injEq, reduceCtorEq, and_true, true_and]; done) | (simp only [Option.some.injEq, Rw.mem.injEq, reduceCtorEq, and_true, true_and]; omega)
  · refine kshow (cond (decide (w.fmod 1048576 ≥ 524288)) (ReadIs (.ok (.d (.tuple (toL (.mem 1 ((w.fdiv 16777216).fmod 16) ((w.fdiv 1048576).fmod 16) (w.fmod 1048576 - 1048576))))) k) k (some (memRow w))) (ReadIs (.ok (.d (.tuple (toL (.mem 1 ((w.fdiv 16777216).fmod 16) ((w.fdiv 1048576).fmod 16) (w.fmod 1048576))))) k) k (some (memRow w)))) (by kernel_rfl) (two (fun _ => Or.inr ⟨_, rfl, ?_⟩) (fun _ => Or.inr ⟨_, rfl, ?_⟩))
    all_goals simp only [memRow, sg20, Int.reduceToNat, Int.reducePow, fd4, fd8, fd16, fd20, fd24, fd28, fd29, fd30, fm2, fm16, fm20, fm24, fm65536, ge_iff_le] at *
    all_goals (repeat' split) <;> first | omega | (simp only [Option.some.injEq, Rw.mem.injEq, reduceCtorEq, and_true, true_and]; done) | (simp only [Option.some.injEq, Rw.mem.injEq, reduceCtorEq, and_true, true_and]; omega)
  · refine kshow (cond (decide (w.fmod 1048576 ≥ 524288)) (ReadIs (.ok (.d (.tuple (toL (.mem 2 ((w.fdiv 16777216).fmod 16) ((w.fdiv 1048576).fmod 16) (w.fmod 1048576 - 1048576))))) k) k (some (memRow w))) (ReadIs (.ok (.d (.tuple (toL (.mem 2 ((w.fdiv 16777216).fmod 16) ((w.fdiv 1048576).fmod 16) (w.fmod 1048576))))) k) k (some (memRow w)))) (by kernel_rfl) (two (fun _ => Or.inr ⟨_, rfl, ?_⟩) (fun _ => Or.inr ⟨_, rfl, ?_⟩))
    all_goals simp only [memRow, sg20, Int.reduceToNat, Int.reducePow, fd4, fd8, fd16, fd20, fd24, fd28, fd29, fd30, fm2, fm16, fm20, fm24, fm65536, ge_iff_le] at *
    all_goals (repeat' split) <;> first | omega | (simp only [Option.some.injEq, Rw.mem.injEq, reduceCtorEq, and_true, true_and]; done) | (simp only [Option.some.injEq, Rw.mem.injEq, reduceCtorEq, and_true, true_and]; omega)
  · refine kshow (cond (decide (w.fmod 1048576 ≥ 524288)) (ReadIs (.ok (.d (.tuple (toL (.mem 3 ((w.fdiv 16777216).fmod 16) ((w.fdiv 1048576).fmod 16) (w.fmod 1048576 - 1048576))))) k) k (some (memRow w))) (ReadIs (.ok (.d (.tuple (toL (.mem 3 ((w.fdiv 16777216).fmod 16) ((w.fdiv 1048576).fmod 16) (w.fmod 1048576))))) k) k (some (memRow w)))) (by kernel_rfl) (two (fun _ => Or.inr ⟨_, rfl, ?_⟩) (fun _ => Or.inr ⟨_, rfl, ?_⟩))
    all_goals simp only [memRow, sg20, Int.reduceToNat, Int.reducePow, fd4, fd8, fd16, fd20, fd24, fd28, fd29, fd30, fm2, fm16, fm20, fm24, fm65536, ge_iff_le] at *
    all_goals (repeat' split) <;> first | omega | (simp only [Option.some.injEq, Rw.mem.injEq, reduceCtorEq, and_true, true_and]; done) | (simp only [Option.some.injEq, Rw.mem.injEq, reduceCtorEq, and_true, true_and]; omega)
theorem s27A (w : Int) (h1 : 3221225472 ≤ w) (h2 : w < 4294967296) : ReadIs (evF δ tab (n + 2) 27 [.d (.int w)] k) k (some (brRow w)) := by
  have e3 : w.fdiv 1073741824 = 3 := by rw [fd30]; omega
  refine wF_of (P := fun o => ReadIs o k _) rfl rfl rfl ?_
  obtain ⟨i, hi, e⟩ := n16 (w.fdiv 16777216)
  conv => whnf
  rcases q2 (w.fdiv 536870912) with e1 | e1 <;> rcases q2 (w.fdiv 268435456) with e2 | e2
  all_goals simp only [Int.reduceToNat, Int.reducePow, e, e1, e2, e3]
  · refine kshow (ReadIs (.ok (.d (.tuple (toL (.br 2 i (w.fmod 16) 0)))) k) k (some (brRow w))) ?_ (Or.inr ⟨_, rfl, ?_⟩)
    · rcases j16 hi with rfl | rfl | rfl | rfl | rfl | rfl | rfl | rfl | rfl | rfl | rfl | rfl | rfl | rfl | rfl | rfl <;> kernel_rfl
    all_goals simp only [brRow, sg24, Int.reduceToNat, Int.reducePow, fd4, fd8, fd16, fd20, fd24, fd28, fd29, fd30, fm2, fm16, fm20, fm24, fm65536, ge_iff_le] at *
    all_goals (repeat' split) <;> first | omega | (simp only [Option.some.injEq, Rw.br.injEq, reduceCtorEq, and_true, true_and]; done) | (simp only [Option.some.injEq, Rw.br.injEq, reduceCtorEq, and_true, true_and]; omega)
  · refine kshow (cond (decide (w.fmod 16 = 12)) (ReadIs (.ok (.d (.tuple (toL (.br 4 i ((w.fdiv 16).fmod 16) ((w.fdiv 256).fmod 65536))))) k) k (some (brRow w))) (ReadIs (.ok (.d (.tuple (toL (.br 3 i (w.fmod 16) 0)))) k) k (some (brRow w)))) ?_ (two (fun _ => Or.inr ⟨_, rfl, ?_⟩) (fun _ => Or.inr ⟨_, rfl, ?_⟩))
    · rcases j16 hi with rfl | rfl | rfl | rfl | rfl | rfl | rfl | rfl | rfl | rfl | rfl | rfl | rfl | rfl | rfl | rfl <;> kernel_rfl
    all_goals simp only [brRow, sg24, Int.reduceToNat, Int.reducePow, fd4, fd8, fd16, fd20, fd24, fd28, fd29, fd30, fm2, fm16, fm20, fm24, fm65536, ge_iff_le] at *
    all_goals (repeat' split) <;> first | omega | (simp only [Option.some.injEq, Rw.br.injEq, reduceCtorEq, and_true, true_and]; done) | (simp only [Option.some.injEq, Rw.br.injEq, reduceCtorEq, and_true, true_and]; omega)
  · refine kshow (cond (decide (w.fmod 16777216 ≥ 8388608)) (ReadIs (.ok (.d (.tuple (toL (.br 0 i (w.fmod 16777216 - 16777216) 0)))) k) k (some (brRow w))) (ReadIs (.ok (.d (.tuple (toL (.br 0 i (w.fmod 16777216) 0)))) k) k (some (brRow w)))) ?_ (two (fun _ => Or.inr ⟨_, rfl, ?_⟩) (fun _ => Or.inr ⟨_, rfl, ?_⟩))
    · rcases j16 hi with rfl | rfl | rfl | rfl | rfl | rfl | rfl | rfl | rfl | rfl | rfl | rfl | rfl | rfl | rfl | rfl <;> kernel_rfl
    all_goals simp only [brRow, sg24, Int.reduceToNat, Int.reducePow, fd4, fd8, fd16, fd20, fd24, fd28, fd29, fd30, fm2, fm16, fm20, fm24, fm65536, ge_iff_le] at *
    all_goals (repeat' split) <;> first | omega | (simp only [Option.some.injEq, Rw.br.injEq, reduceCtorEq, and_true, true_and]; done) | (simp only [Option.some.injEq, Rw.br.injEq, reduceCtorEq, and_true, true_and]; omega)
  · refine kshow (cond (decide (w.fmod 16777216 ≥ 8388608)) (ReadIs (.ok (.d (.tuple (toL (.br 1 i (w.fmod 16777216 - 16777216) 0)))) k) k (some (brRow w))) (ReadIs (.ok (.d (.tuple (toL (.br 1 i (w.fmod 16777216) 0)))) k) k (some (brRow w)))) ?_ (two (fun _ => Or.inr ⟨_, rfl, ?_⟩) (fun _ => Or.inr ⟨_, rfl, ?_⟩))
    · rcases j16 hi with rfl | rfl | rfl | rfl | rfl | rfl | rfl | rfl | rfl | rfl | rfl | rfl | rfl | rfl | rfl | rfl <;> kernel_rfl
    all_goals simp only [brRow, sg24, Int.reduceToNat, Int.reducePow, fd4, fd8, fd16, fd20, fd24, fd28, fd29, fd30, fm2, fm16, fm20, fm24, fm65536, ge_iff_le] at *
    all_goals (repeat' split) <;> first | omega | (simp only [Option.some.injEq, Rw.br.injEq, reduceCtorEq, and_true, true_and]; done) | (simp only [Option.some.injEq, Rw.br.injEq, reduceCtorEq, and_true, true_and]; omega)
end
end Mine

end

-- P10
section
open PySem PySem.W PyProof.Rows
namespace Mine
set_option maxRecDepth 100000
set_option maxHeartbeats 4000000
section
variable (δ : Nat → Int) (n k : Nat)
theorem s27C0 (w : Int) (h1 : 0 ≤ w) (h2 : w < 1073741824) : ReadIs (evF δ tab (n + 2) 27 [.d (.int w)] k) k (opRowL w) := by
  have e3 : w.fdiv 1073741824 = 0 := by rw [fd30]; omega
  refine wF_of (P := fun o => ReadIs o k _) rfl rfl rfl ?_
  obtain ⟨i, hi, e⟩ := n16 (w.fdiv 65536)
  conv => whnf
  simp only [Int.reduceToNat, Int.reducePow, e, e3]
  by_cases h12 : 12 ≤ i
  · refine kshow (ReadIs (.ok (.d .none) k) k (opRowL w)) ?_ (Or.inl ⟨rfl, ?_⟩)
    · rcases i12 hi h12 with rfl | rfl | rfl | rfl <;> kernel_rfl
    · rw [fd16, fm16] at e
      rw [opRowL, if_pos (by omega)]
  rcases q2 (w.fdiv 536870912) with e1 | e1 <;> rcases q2 (w.fdiv 268435456) with e2 | e2
  all_goals simp only [e1, e2]
  · refine kshow (ReadIs (.ok (.d (.tuple (toL (.op i ((w.fdiv 16777216).fmod 16) ((w.fdiv 1048576).fmod 16) (w.fmod 16))))) k) k (opRowL w)) ?_ (Or.inr ⟨_, rfl, ?_⟩)
    · rcases j12 (Nat.lt_of_not_le h12) with rfl | rfl | rfl | rfl | rfl | rfl | rfl | rfl | rfl | rfl | rfl | rfl <;> kernel_rfl
    all_goals simp only [opRowL, Int.reduceToNat, Int.reducePow, fd4, fd8, fd16, fd20, fd24, fd28, fd29, fd30, fm2, fm16, fm20, fm24, fm65536, ge_iff_le] at *
    all_goals (repeat' split) <;> first | omega | (simp only [Option.some.injEq, Rw.op.injEq, Rw.opI.injEq, Rw.geth.injEq, Rw.movh.injEq, reduceCtorEq, and_true, true_and]; done) | (simp only [Option.some.injEq, Rw.op.injEq, Rw.opI.injEq, Rw.geth.injEq, Rw.movh.injEq, reduceCtorEq, and_true, true_and]; omega)
  · refine kshow (ReadIs (.ok (.d (.tuple (toL (.op i ((w.fdiv 16777216).fmod 16) ((w.fdiv 1048576).fmod 16) (w.fmod 16))))) k) k (opRowL w)) ?_ (Or.inr ⟨_, rfl, ?_⟩)
    · rcases j12 (Nat.lt_of_not_le h12) with rfl | rfl | rfl | rfl | rfl | rfl | rfl | rfl | rfl | rfl | rfl | rfl <;> kernel_rfl
    all_goals simp only [opRowL, Int.reduceToNat, Int.reducePow, fd4, fd8, fd16, fd20, fd24, fd28, fd29, fd30, fm2, fm16, fm20, fm24, fm65536, ge_iff_le] at *
    all_goals (repeat' split) <;> first | omega | (simp only [Option.some.injEq, Rw.op.injEq, Rw.opI.injEq, Rw.geth.injEq, Rw.movh.injEq, reduceCtorEq, and_true, true_and]; done) | (simp only [Option.some.injEq, Rw.op.injEq, Rw.opI.injEq, Rw.geth.injEq, Rw.movh.injEq, reduceCtorEq, and_true, true_and]; omega)
  · by_cases h0 : i = 0
    · subst h0
      refine kshow (ReadIs (.ok (.d (.tuple (toL (.geth ((w.fdiv 16777216).fmod 16) ((w.fdiv 1048576).fmod 16) 0)))) k) k (opRowL w)) (by kernel_rfl) (Or.inr ⟨_, rfl, ?_⟩)
      all_goals simp only [opRowL, Int.reduceToNat, Int.reducePow, fd4, fd8, fd16, fd20, fd24, fd28, fd29, fd30, fm2, fm16, fm20, fm24, fm65536, ge_iff_le] at *
      all_goals (repeat' split) <;> first | omega | (simp only [Option.some.injEq, Rw.op.injEq, Rw.opI.injEq, Rw.geth.injEq, Rw.movh.injEq, reduceCtorEq, and_true, true_and]; done) | (simp only [Option.some.injEq, Rw.op.injEq, Rw.opI.injEq, Rw.geth.injEq, Rw.movh.injEq, reduceCtorEq, and_true, true_and]; omega)
    · refine kshow (ReadIs (.ok (.d .none) k) k (opRowL w)) ?_ (Or.inl ⟨rfl, ?_⟩)
      · rcases i11 h12 h0 with rfl | rfl | rfl | rfl | rfl | rfl | rfl | rfl | rfl | rfl | rfl <;> kernel_rfl
      all_goals simp only [opRowL, Int.reduceToNat, Int.reducePow, fd4, fd8, fd16, fd20, fd24, fd28, fd29, fd30, fm2, fm16, fm20, fm24, fm65536, ge_iff_le] at *
      all_goals (repeat' split) <;> first | omega | (simp only [Option.some.injEq, Rw.op.injEq, Rw.opI.injEq, Rw.geth.injEq, Rw.movh.injEq, reduceCtorEq, and_true, true_and]; done) | (simp only [Option.some.injEq, Rw.op.injEq, Rw.opI.injEq, Rw.geth.injEq, Rw.movh.injEq, reduceCtorEq, and_true, true_and]; omega)
  · by_cases h0 : i = 0
    · subst h0
      refine kshow (ReadIs (.ok (.d (.tuple (toL (.geth ((w.fdiv 16777216).fmod 16) ((w.fdiv 1048576).fmod 16) 0)))) k) k (opRowL w)) (by kernel_rfl) (Or.inr ⟨_, rfl, ?_⟩)
      all_goals simp only [opRowL, Int.reduceToNat, Int.reducePow, fd4, fd8, fd16, fd20, fd24, fd28, fd29, fd30, fm2, fm16, fm20, fm24, fm65536, ge_iff_le] at *
      all_goals (repeat' split) <;> first | omega | (simp only [Option.some.injEq, Rw.op.injEq, Rw.opI.injEq, Rw.geth.injEq, Rw.movh.injEq, reduceCtorEq, and_true, true_and]; done) | (simp only [Option.some.injEq, Rw.op.injEq, Rw.opI.injEq, Rw.geth.injEq, Rw.movh.injEq, reduceCtorEq, and_true, true_and]; omega)
    · refine kshow (ReadIs (.ok (.d .none) k) k (opRowL w)) ?_ (Or.inl ⟨rfl, ?_⟩)
      · rcases i11 h12 h0 with rfl | rfl | rfl | rfl | rfl | rfl | rfl | rfl | rfl | rfl | rfl <;> kernel_rfl
      all_goals simp only [opRowL, Int.reduceToNat, Int.reducePow, fd4, fd8, fd16, fd20, fd24, fd28, fd29, fd30, fm2, fm16, fm20, fm24, fm65536, ge_iff_le] at *
      all_goals (repeat' split) <;> first | omega | (simp only [Option.some.injEq, Rw.op.injEq, Rw.opI.injEq, Rw.geth.injEq, Rw.movh.injEq, reduceCtorEq, and_true, true_and]; done) | (simp only [Option.some.injEq, Rw.op.injEq, Rw.opI.injEq, Rw.geth.injEq, Rw.movh.injEq, reduceCtorEq, and_true, true_and]; omega)
theorem s27C1 (w : Int) (h1 : 1073741824 ≤ w) (h2 : w < 2147483648) : ReadIs (evF δ tab (n + 2) 27 [.d (.int w)] k) k (opRowL w) := by
  have e3 : w.fdiv 1073741824 = 1 := by rw [fd30]; omega
  refine wF_of (P := fun o => ReadIs o k _) rfl rfl rfl ?_
  obtain ⟨i, hi, e⟩ := n16 (w.fdiv 65536)
  conv => whnf
  simp only [Int.reduceToNat, Int.reducePow, e, e3]
  by_cases h12 : 12 ≤ i
  · refine kshow (ReadIs (.ok (.d .none) k) k (opRowL w)) ?_ (Or.inl ⟨rfl, ?_⟩)
    · rcases i12 hi h12 with rfl | rfl | rfl | rfl <;> kernel_rfl
    · rw [fd16, fm16] at e
      rw [opRowL, if_pos (by omega)]
  rcases q2 (w.fdiv 536870912) with e1 | e1 <;> rcases q2 (w.fdiv 268435456) with e2 | e2
  all_goals simp only [e1, e2]
  · refine kshow (ReadIs (.ok (.d (.tuple (toL (.opI i ((w.fdiv 16777216).fmod 16) ((w.fdiv 1048576).fmod 16) (w.fmod 65536 - 65536 * 0))))) k) k (opRowL w)) ?_ (Or.inr ⟨_, rfl, ?_⟩)
    · rcases j12 (Nat.lt_of_not_le h12) with rfl | rfl | rfl | rfl | rfl | rfl | rfl | rfl | rfl | rfl | rfl | rfl <;> kernel_rfl
    all_goals simp only [opRowL, Int.reduceToNat, Int.reducePow, fd4, fd8, fd16, fd20, fd24, fd28, fd29, fd30, fm2, fm16, fm20, fm24, fm65536, ge_iff_le] at *
    all_goals (repeat' split) <;> first | omega | (simp only [Option.some.injEq, Rw.op.injEq, Rw.opI.injEq, Rw.geth.injEq, Rw.movh.injEq, reduceCtorEq, and_true, true_and]; done) | (simp only [Option.some.injEq, Rw.op.injEq, Rw.opI.injEq, Rw.geth.injEq, Rw.movh.injEq, reduceCtorEq, and_true, true_and]; omega)
  · refine kshow (ReadIs (.ok (.d (.tuple (toL (.opI i ((w.fdiv 16777216).fmod 16) ((w.fdiv 1048576).fmod 16) (w.fmod 65536 - 65536 * 1))))) k) k (opRowL w)) ?_ (Or.inr ⟨_, rfl, ?_⟩)
    · rcases j12 (Nat.lt_of_not_le h12) with rfl | rfl | rfl | rfl | rfl | rfl | rfl | rfl | rfl | rfl | rfl | rfl <;> kernel_rfl
    all_goals simp only [opRowL, Int.reduceToNat, Int.reducePow, fd4, fd8, fd16, fd20, fd24, fd28, fd29, fd30, fm2, fm16, fm20, fm24, fm65536, ge_iff_le] at *
    all_goals (repeat' split) <;> first | omega | (simp only [Option.some.injEq, Rw.op.injEq, Rw.opI.injEq, Rw.geth.injEq, Rw.movh.injEq, reduceCtorEq, and_true, true_and]; done) | (simp only [Option.some.injEq, Rw.op.injEq, Rw.opI.injEq, Rw.geth.injEq, Rw.movh.injEq, reduceCtorEq, and_true, true_and]; omega)
  · by_cases h0 : i = 0
    · subst h0
      refine kshow (ReadIs (.ok (.d (.tuple (toL (.movh ((w.fdiv 16777216).fmod 16) ((w.fdiv 1048576).fmod 16) (w.fmod 65536))))) k) k (opRowL w)) (by kernel_rfl) (Or.inr ⟨_, rfl, ?_⟩)
      all_goals simp only [opRowL, Int.reduceToNat, Int.reducePow, fd4, fd8, fd16, fd20, fd24, fd28, fd29, fd30, fm2, fm16, fm20, fm24, fm65536, ge_iff_le] at *
      all_goals (repeat' split) <;> first | omega | (simp only [Option.some.injEq, Rw.op.injEq, Rw.opI.injEq, Rw.geth.injEq, Rw.movh.injEq, reduceCtorEq, and_true, true_and]; done) | (simp only [Option.some.injEq, Rw.op.injEq, Rw.opI.injEq, Rw.geth.injEq, Rw.movh.injEq, reduceCtorEq, and_true, true_and]; omega)
    · refine kshow (ReadIs (.ok (.d .none) k) k (opRowL w)) ?_ (Or.inl ⟨rfl, ?_⟩)
      · rcases i11 h12 h0 with rfl | rfl | rfl | rfl | rfl | rfl | rfl | rfl | rfl | rfl | rfl <;> kernel_rfl
      all_goals simp only [opRowL, Int.reduceToNat, Int.reducePow, fd4, fd8, fd16, fd20, fd24, fd28, fd29, fd30, fm2, fm16, fm20, fm24, fm65536, ge_iff_le] at *
      all_goals (repeat' split) <;> first | omega | (simp only [Option.some.injEq, Rw.op.injEq, Rw.opI.injEq, Rw.geth.injEq, Rw.movh.injEq, reduceCtorEq, and_true, true_and]; done) | (simp only [Option.some.injEq, Rw.op.injEq, Rw.opI.injEq, Rw.geth.injEq, Rw.movh.injEq, reduceCtorEq, and_true, true_and]; omega)
  · by_cases h0 : i = 0
    · subst h0
      refine kshow (ReadIs (.ok (.d (.tuple (toL (.movh ((w.fdiv 16777216).fmod 16) ((w.fdiv 1048576).fmod 16) (w.fmod 65536))))) k) k (opRowL w)) (by kernel_rfl) (Or.inr ⟨_, rfl, ?_⟩)
      all_goals simp only [opRowL, Int.reduceToNat, Int.reducePow, fd4, fd8, fd16, fd20, fd24, fd28, fd29, fd30, fm2, fm16, fm20, fm24, fm65536, ge_iff_le] at *
      all_goals (repeat' split) <;> first | omega | (simp only [Option.some.injEq, Rw.op.injEq, Rw.opI.injEq, Rw.geth.injEq, Rw.movh.injEq, reduceCtorEq, and_true, true_and]; done) | (simp only [Option.some.injEq, Rw.op.injEq, Rw.opI.injEq, Rw.geth.injEq, Rw.movh.injEq, reduceCtorEq, and_true, true_and]; omega)
    · refine kshow (ReadIs (.ok (.d .none) k) k (opRowL w)) ?_ (Or.inl ⟨rfl, ?_⟩)
      · rcases i11 h12 h0 with rfl | rfl | rfl | rfl | rfl | rfl | rfl | rfl | rfl | rfl | rfl <;> kernel_rfl
      all_goals simp only [opRowL, Int.reduceToNat, Int.reducePow, fd4, fd8, fd16, fd20, fd24, fd28, fd29, fd30, fm2, fm16, fm20, fm24, fm65536, ge_iff_le] at *
      all_goals (repeat' split) <;> first | omega | (simp only [Option.some.injEq, Rw.op.injEq, Rw.opI.injEq, Rw.geth.injEq, Rw.movh.injEq, reduceCtorEq, and_true, true_and]; done) | (simp only [Option.some.injEq, Rw.op.injEq, Rw.opI.injEq, Rw.geth.injEq, Rw.movh.injEq, reduceCtorEq, and_true, true_and]; omega)
end
end Mine

end

-- P11
section
open PySem PySem.W PyProof.Rows
namespace Mine
set_option maxRecDepth 100000
set_option maxHeartbeats 4000000

theorem ok_br (w : Int) (h1 : 3221225472 ≤ w) (h2 : w < 4294967296) : okR (brRow w) := by
  unfold brRow
  (repeat' split) <;> simp only [okR] <;> omega
theorem ok_mem (w : Int) : okR (memRow w) := by
  unfold memRow
  simp only [okR]
  omega
theorem ok_op {w : Int} {r : Rw} (h : opRow w = some r) : okR r := by
  unfold opRow at h
  (repeat' split at h) <;> cases h <;> simp only [okR] <;> omega

section
variable (δ : Nat → Int) (n k : Nat)
theorem s4_out (w : Int) (h : ¬ (0 ≤ w ∧ w ≤ 4294967295)) : evF δ tab (n + 6) 4 [.d (.int w)] k = .exc k := by
  refine wF_of (P := fun o => o = _) rfl rfl rfl ?_
  conv => whnf
  simp only [s9, decide_eq_false h]
  rfl
end
end Mine

end

-- P12
section
open PySem PySem.W PyProof.Rows
namespace Mine
set_option maxRecDepth 100000
set_option maxHeartbeats 4000000
noncomputable def readD (w : Int) : Option Rw := if 3221225472 ≤ w then some (brRow w) else if 2147483648 ≤ w then some (memRow w) else opRow w
noncomputable def readL (w : Int) : Option Rw := if 3221225472 ≤ w then some (brRow w) else if 2147483648 ≤ w then some (memRow w) else opRowL w
noncomputable def DecIs (o : Out) (k : Nat) (rd : Option Rw) (w : Int) : Prop := (o = .exc k ∧ ∀ r, rd = some r → ¬ (sndR r ∧ wrd r = w)) ∨ ∃ r, o = .ok (.d (.tuple (toL r))) k ∧ rd = some r ∧ sndR r ∧ wrd r = w
noncomputable def decB : MSs := match b_decode with | .cons _ (.cons _ r) => r | _ => .nil
section
variable (δ : Nat → Int) (n k : Nat)
theorem rest4 (w : Int) (r : Rw) (hok : okR r) (v2 : V) (HR : readD w = some r) : wSs (evF δ tab (n + 5)) decB [.d (.int w), .d (.tuple (toL r)), v2] k (fun o => DecIs (outOf o) k (readD w) w) := by
  obtain ⟨l, e, hl⟩ := s15 δ (n + 1) k r hok
  conv => whnf
  simp only [e]
  by_cases hs : sndR r
  · obtain rfl := hl.mpr hs
    have e3 := s3_ok δ n k r hok hs
    conv => whnf
    simp only [e3]
    conv => whnf
    split
    · rename_i hq
      refine Or.inl ⟨rfl, fun r' hr q => ?_⟩
      rw [HR] at hr
      cases hr
      simp only [Bool.not_eq_true', decide_eq_false_iff_not] at hq
      exact hq q.2
    · rename_i hq
      refine Or.inr ⟨_, rfl, HR, hs, ?_⟩
      simpa using hq
  · cases l with
    | nil => exact absurd (hl.mp rfl) hs
    | cons x t =>
      refine Or.inl ⟨rfl, fun r' hr q => ?_⟩
      rw [HR] at hr
      cases hr
      exact hs q.1
theorem s4_in (w : Int) (h : 0 ≤ w ∧ w ≤ 4294967295) : DecIs (evF δ tab (n + 6) 4 [.d (.int w)] k) k (readD w) w := by
  refine wF_of (P := fun o => DecIs o k (readD w) w) rfl rfl rfl ?_
  conv => whnf
  simp only [s9, decide_eq_true h]
  by_cases hA : 3221225472 ≤ w
  · have HR : readD w = some (brRow w) := by rw [readD, if_pos hA]
    rcases s20 δ (n + 3) k w with ⟨_, e20⟩ | ⟨r0, e20, er⟩
    · cases e20
    cases er
    have hok := ok_br w hA (by omega)
    conv => whnf
    simp only [ge_iff_le, hA, decide_true]
    conv => whnf
    simp only [e20]
    exact rest4 δ n k w _ hok _ HR
  · by_cases hB : 2147483648 ≤ w
    · have HR : readD w = some (memRow w) := by rw [readD, if_neg hA, if_pos hB]
      have hok := ok_mem w
      conv => whnf
      simp only [ge_iff_le, hA, decide_false]
      conv => whnf
      simp only [ge_iff_le, hB, decide_true]
      have em : memRow w = .mem (w / 268435456 % 4).toNat ((w.fdiv 16777216).fmod 16) ((w.fdiv 1048576).fmod 16) (sg20 (w.fmod 1048576)) := by simp only [memRow, fd20, fd24, fm16, fm20]
      rcases q4 (w.fdiv 268435456) with eq | eq | eq | eq
      · have ej : (w / 268435456 % 4).toNat = 0 := by
          rw [fd28, fm4] at eq
          omega
        rw [em, ej] at hok HR
        conv => whnf
        simp only [eq]
        conv => whnf
        simp only [s18_20e]
        exact rest4 δ n k w _ hok _ HR
      · have ej : (w / 268435456 % 4).toNat = 1 := by
          rw [fd28, fm4] at eq
          omega
        rw [em, ej] at hok HR
        conv => whnf
        simp only [eq]
        conv => whnf
        simp only [s18_20e]
        exact rest4 δ n k w _ hok _ HR
      · have ej : (w / 268435456 % 4).toNat = 2 := by
          rw [fd28, fm4] at eq
          omega
        rw [em, ej] at hok HR
        conv => whnf
        simp only [eq]
        conv => whnf
        simp only [s18_20e]
        exact rest4 δ n k w _ hok _ HR
      · have ej : (w / 268435456 % 4).toNat = 3 := by
          rw [fd28, fm4] at eq
          omega
        rw [em, ej] at hok HR
        conv => whnf
        simp only [eq]
        conv => whnf
        simp only [s18_20e]
        exact rest4 δ n k w _ hok _ HR
    · have HR0 : readD w = opRow w := by rw [readD, if_neg hA, if_neg hB]
      conv => whnf
      simp only [ge_iff_le, hA, decide_false]
      conv => whnf
      simp only [ge_iff_le, hB, decide_false]
      conv => whnf
      rcases s19 δ (n + 3) k w with ⟨e19, er⟩ | ⟨r0, e19, er⟩
      · simp only [e19]
        refine Or.inl ⟨rfl, fun r hr => ?_⟩
        rw [HR0, er] at hr
        cases hr
      · have HR : readD w = some r0 := HR0.trans er
        have hok := ok_op er
        simp only [e19]
        exact rest4 δ n k w _ hok _ HR
end
end Mine

end

-- P13
section
open PySem PySem.W PyProof.Rows
namespace Mine
set_option maxRecDepth 100000
set_option maxHeartbeats 4000000
theorem dig {w t i r : Int} (hi : 0 ≤ i ∧ i ≤ 15) (hr : 0 ≤ r ∧ r ≤ 16777215) (hw : w = t * 268435456 + i * 16777216 + r) : w / 268435456 = t ∧ w / 16777216 % 16 = i ∧ w % 16777216 = r :=
  ⟨by omega, by omega, by omega⟩
theorem dig2 {w b j c : Int} (hb : 0 ≤ b ∧ b ≤ 15) (hj : 0 ≤ j ∧ j ≤ 15) (hc : 0 ≤ c ∧ c ≤ 65535) (hw : w % 16777216 = b * 1048576 + j * 65536 + c) : w / 1048576 % 16 = b ∧ w / 65536 % 16 = j ∧ w % 65536 = c :=
  ⟨by omega, by omega, by omega⟩
theorem dig3 {w b c : Int} (hb : 0 ≤ b ∧ b ≤ 15) (hc : 0 ≤ c ∧ c ≤ 1048575) (hw : w % 16777216 = b * 1048576 + c) : w / 1048576 % 16 = b ∧ w % 1048576 = c :=
  ⟨by omega, by omega⟩
theorem dig4 {w d c : Int} (hd : 0 ≤ d ∧ d ≤ 65535) (hc : 0 ≤ c ∧ c ≤ 15) (hw : w % 16777216 = d * 256 + c * 16 + 12) : w % 16 = 12 ∧ w / 16 % 16 = c ∧ w / 256 % 65536 = d :=
  ⟨by omega, by omega, by omega⟩
theorem top_t {w t : Int} (h : w / 268435456 = t) : w / 536870912 % 2 = t / 2 % 2 ∧ (3221225472 ≤ w ↔ 12 ≤ t) ∧ (2147483648 ≤ w ↔ 8 ≤ t) ∧ (w < 1073741824 ↔ t < 4) :=
  ⟨by omega, by omega, by omega, by omega⟩
/-- the digits of a row's word: the first, the second, the rest -/
noncomputable def t_of : Rw → Int
  | .op _ _ _ _ => 0
  | .opI _ _ _ c => if c < 0 then 5 else 4
  | .geth _ _ _ => 2
  | .movh _ _ _ => 6
  | .mem j _ _ _ => 8 + j
  | .br j _ _ _ => 12 + (if j = 1 ∨ 3 ≤ j then 1 else 0) + (if j ≤ 1 then 2 else 0)
noncomputable def i_of : Rw → Int
  | .op _ a _ _ => a
  | .opI _ a _ _ => a
  | .geth a _ _ => a
  | .movh a _ _ => a
  | .mem _ a _ _ => a
  | .br _ i _ _ => i
noncomputable def r_of : Rw → Int
  | .op j _ b c => b * 1048576 + j * 65536 + c
  | .opI j _ b c => b * 1048576 + j * 65536 + c % 65536
  | .geth _ b c => b * 1048576 + 0 * 65536 + c
  | .movh _ b c => b * 1048576 + 0 * 65536 + c
  | .mem _ _ b c => b * 1048576 + c % 1048576
  | .br j _ c d => if j ≤ 1 then c % 16777216 else if j = 4 then d * 256 + c * 16 + 12 else c
theorem digs (r : Rw) (h : okR r) (hs : sndR r) : (0 ≤ i_of r ∧ i_of r ≤ 15) ∧ (0 ≤ r_of r ∧ r_of r ≤ 16777215) ∧ wrd r = t_of r * 268435456 + i_of r * 16777216 + r_of r ∧ 0 ≤ t_of r ∧ t_of r ≤ 15 := by
  cases r with
  | op j a b c =>
    simp only [okR, sndR] at h hs
    simp only [i_of, r_of, wrd, t_of]
    omega
  | opI j a b c =>
    simp only [okR, sndR] at h hs
    simp only [i_of, r_of, wrd, t_of]
    split <;> omega
  | geth a b c =>
    simp only [sndR] at hs
    simp only [i_of, r_of, wrd, t_of]
    omega
  | movh a b c =>
    simp only [sndR] at hs
    simp only [i_of, r_of, wrd, t_of]
    omega
  | mem j a b c =>
    simp only [okR, sndR] at h hs
    simp only [i_of, r_of, wrd, t_of]
    omega
  | br j i c d =>
    simp only [okR, sndR] at h hs
    obtain ⟨h1, h2⟩ := h
    simp only [i_of]
    refine ⟨by omega, ?_⟩
    clear h2
    obtain ⟨g1, g2, -, g4, g5⟩ := hs
    rcases j5 h1 with rfl | rfl | rfl | rfl | rfl
    · show (0 ≤ c % 16777216 ∧ c % 16777216 ≤ 16777215) ∧ 3221225472 + (i : Int) * 16777216 + 0 + (536870912 + c % 16777216) = (12 + 0 + 2) * 268435456 + (i : Int) * 16777216 + c % 16777216 ∧ (0 : Int) ≤ 12 + 0 + 2 ∧ (12 : Int) + 0 + 2 ≤ 15
      omega
    · show (0 ≤ c % 16777216 ∧ c % 16777216 ≤ 16777215) ∧ 3221225472 + (i : Int) * 16777216 + 268435456 + (536870912 + c % 16777216) = (12 + 1 + 2) * 268435456 + (i : Int) * 16777216 + c % 16777216 ∧ (0 : Int) ≤ 12 + 1 + 2 ∧ (12 : Int) + 1 + 2 ≤ 15
      omega
    · show (0 ≤ c ∧ c ≤ 16777215) ∧ 3221225472 + (i : Int) * 16777216 + 0 + c = (12 + 0 + 0) * 268435456 + (i : Int) * 16777216 + c ∧ (0 : Int) ≤ 12 + 0 + 0 ∧ (12 : Int) + 0 + 0 ≤ 15
      omega
    · show (0 ≤ c ∧ c ≤ 16777215) ∧ 3221225472 + (i : Int) * 16777216 + 268435456 + c = (12 + 1 + 0) * 268435456 + (i : Int) * 16777216 + c ∧ (0 : Int) ≤ 12 + 1 + 0 ∧ (12 : Int) + 1 + 0 ≤ 15
      omega
    · show (0 ≤ d * 256 + c * 16 + 12 ∧ d * 256 + c * 16 + 12 ≤ 16777215) ∧ 3221225472 + (i : Int) * 16777216 + 268435456 + (d * 256 + c * 16 + 12) = (12 + 1 + 0) * 268435456 + (i : Int) * 16777216 + (d * 256 + c * 16 + 12) ∧ (0 : Int) ≤ 12 + 1 + 0 ∧ (12 : Int) + 1 + 0 ≤ 15
      omega
theorem wrd_in (r : Rw) (h : okR r) (hs : sndR r) : 0 ≤ wrd r ∧ wrd r ≤ 4294967295 := by
  obtain ⟨h1, h2, h3, h4, h5⟩ := digs r h hs
  omega
theorem lt12 {w : Int} (h : ¬ 12 ≤ w / 65536 % 16) : (w / 65536 % 16).toNat < 12 := by omega
theorem le16 {c : Int} (h : 0 ≤ c ∧ c ≤ 0) : 0 ≤ c ∧ c ≤ 65535 := by omega
theorem le15 {c : Int} (h : 0 ≤ c ∧ c ≤ 15) : 0 ≤ c ∧ c ≤ 65535 := by omega
theorem in12 {j : Nat} (h : j < 12) : (0 ≤ (j : Int) ∧ (j : Int) ≤ 15) ∧ ¬ 12 ≤ (j : Int) := by omega
theorem m16 (c : Int) : 0 ≤ c % 65536 ∧ c % 65536 ≤ 65535 := by omega
theorem m20 (c : Int) : 0 ≤ c % 1048576 ∧ c % 1048576 ≤ 1048575 := by omega
theorem low16 {w c : Int} (h : w % 65536 = c) (hc : 0 ≤ c ∧ c ≤ 15) : w % 16 = c := by omega
theorem low24 {w c : Int} (h : w % 16777216 = c) (hc : 0 ≤ c ∧ c ≤ 15) : w % 16 = c := by omega
theorem wrapN {c : Int} (h : -65536 ≤ c ∧ c ≤ 65535) (hc : c < 0) : c % 65536 - 65536 = c := by omega
theorem wrapP {c : Int} (h : -65536 ≤ c ∧ c ≤ 65535) (hc : ¬ c < 0) : c % 65536 = c := by omega
theorem wrap20 {c : Int} (h : -524288 ≤ c ∧ c ≤ 524287) : sg20 (c % 1048576) = c := by unfold sg20; split <;> omega
theorem wrap24 {c : Int} (h : -8388608 ≤ c ∧ c ≤ 8388607) : sg24 (c % 16777216) = c := by unfold sg24; split <;> omega
theorem memj {j : Nat} (h : j < 4) : ¬ 12 ≤ 8 + (j : Int) ∧ 8 ≤ 8 + (j : Int) ∧ ((8 + (j : Int)) % 4).toNat = j := by omega
theorem eq0 {c : Int} (h : 0 ≤ c ∧ c ≤ 0) : c = 0 := by omega
theorem ok_opL {w : Int} {r : Rw} (h : opRowL w = some r) : okR r := by
  unfold opRowL at h
  (repeat' split at h) <;> cases h <;> simp only [okR] <;> omega
theorem ok_L {w : Int} {r : Rw} (h0 : w ≤ 4294967295) (h : readL w = some r) : okR r := by
  unfold readL at h
  split at h
  · cases h
    exact ok_br w (by assumption) (by omega)
  · split at h
    · cases h
      exact ok_mem w
    · exact ok_opL h
theorem u_op {r : Rw} (h : okR r) (hs : sndR r) (h8 : wrd r < 2147483648) (hu : wrd r / 536870912 % 2 = 1) : wrd r / 65536 % 16 = 0 := by
  obtain ⟨h1, h2, h3, h4, h5⟩ := digs r h hs
  generalize wrd r = w at h3 h8 hu
  obtain ⟨e1, e2, e3⟩ := dig h1 h2 h3
  obtain ⟨eu, k1, k2, k3⟩ := top_t e1
  rw [eu] at hu
  have ht : ¬ 8 ≤ t_of r := fun q => absurd (k2.mpr q) (by omega)
  clear h1 h2 h3 h4 h5 e1 e2 eu k1 k2 k3 h8
  cases r with
  | op j a b c => exact absurd hu (by show ¬ ((0 : Int) / 2 % 2 = 1); decide)
  | opI j a b c =>
    simp only [t_of] at hu
    split at hu <;> exact absurd hu (by decide)
  | geth a b c => exact (dig2 hs.2.1 (by decide) (le16 hs.2.2.2) e3).2.1
  | movh a b c => exact (dig2 hs.2.1 (by decide) hs.2.2.2 e3).2.1
  | mem j a b c => exact absurd (show (8 : Int) ≤ 8 + (j : Int) by omega) ht
  | br j i c d => exact absurd (by simp only [t_of]; split <;> split <;> decide) ht
theorem agree {w : Int} {r : Rw} (h0 : 0 ≤ w) (h9 : w ≤ 4294967295) (hs : sndR r) (hw : wrd r = w) : readD w = some r ↔ readL w = some r := by
  unfold readD readL
  split
  · exact Iff.rfl
  · split
    · exact Iff.rfl
    · rename_i h1 h2
      unfold opRow opRowL
      by_cases h3 : 12 ≤ w / 65536 % 16
      · rw [if_pos h3, if_pos h3]
      rw [if_neg h3, if_neg h3]
      by_cases h4 : w / 536870912 % 2 = 1
      · by_cases h5 : w / 65536 % 16 = 0
        · simp only [h4, h5, if_true, and_self]
        · simp only [h4, h5, if_true, if_false, and_false]
          refine ⟨fun q => ?_, fun q => by cases q⟩
          have hk : okR r := by
            split at q <;> cases q <;> exact lt12 h3
          subst hw
          exact absurd (u_op hk hs (by omega) h4) h5
      · simp only [h4, if_false, false_and]
theorem inverse (r : Rw) (h : okR r) (hs : sndR r) : readD (wrd r) = some r := by
  obtain ⟨h1, h2, h3, h4, h5⟩ := digs r h hs
  generalize wrd r = w at h3
  obtain ⟨e1, e2, e3⟩ := dig h1 h2 h3
  obtain ⟨eu, k1, k2, k3⟩ := top_t e1
  clear h1 h2 h3 h4 h5
  unfold readD
  cases r with
  | op j a b c =>
    simp only [t_of, i_of] at *
    obtain ⟨f1, f2, f3⟩ := dig2 hs.2.1 (in12 h).1 (le15 hs.2.2.2) e3
    rw [if_neg (fun q => absurd (k1.mp q) (by decide)), if_neg (fun q => absurd (k2.mp q) (by decide)), opRow, f2, if_neg (in12 h).2, if_pos (k3.mpr (by decide)), eu, e2, f1, if_neg (fun q => absurd q.1 (by decide)), Int.toNat_natCast, low16 f3 hs.2.2.2]
  | opI j a b c =>
    simp only [i_of] at *
    obtain ⟨f1, f2, f3⟩ := dig2 hs.2.1 (in12 h).1 (m16 c) e3
    by_cases hc : c < 0
    · simp only [t_of, if_pos hc] at *
      rw [if_neg (fun q => absurd (k1.mp q) (by decide)), if_neg (fun q => absurd (k2.mp q) (by decide)), opRow, f2, if_neg (in12 h).2, if_neg (fun q => absurd (k3.mp q) (by decide)), eu, e2, f1, if_neg (fun q => absurd q.1 (by decide)), Int.toNat_natCast, e1, if_pos (by decide), f3, wrapN hs.2.2.2 hc]
    · simp only [t_of, if_neg hc] at *
      rw [if_neg (fun q => absurd (k1.mp q) (by decide)), if_neg (fun q => absurd (k2.mp q) (by decide)), opRow, f2, if_neg (in12 h).2, if_neg (fun q => absurd (k3.mp q) (by decide)), eu, e2, f1, if_neg (fun q => absurd q.1 (by decide)), Int.toNat_natCast, e1, if_neg (by decide), f3, wrapP hs.2.2.2 hc]
  | geth a b c =>
    simp only [t_of, i_of] at *
    obtain ⟨f1, f2, f3⟩ := dig2 hs.2.1 (by decide) (le16 hs.2.2.2) e3
    rw [if_neg (fun q => absurd (k1.mp q) (by decide)), if_neg (fun q => absurd (k2.mp q) (by decide)), opRow, f2, if_neg (by decide), if_pos (k3.mpr (by decide)), eu, e2, f1, if_pos ⟨by decide, rfl⟩, eq0 hs.2.2.2]
  | movh a b c =>
    simp only [t_of, i_of] at *
    obtain ⟨f1, f2, f3⟩ := dig2 hs.2.1 (by decide) hs.2.2.2 e3
    rw [if_neg (fun q => absurd (k1.mp q) (by decide)), if_neg (fun q => absurd (k2.mp q) (by decide)), opRow, f2, if_neg (by decide), if_neg (fun q => absurd (k3.mp q) (by decide)), eu, e2, f1, if_pos ⟨by decide, rfl⟩, f3]
  | mem j a b c =>
    simp only [t_of, i_of] at *
    obtain ⟨f1, f2⟩ := dig3 hs.2.1 (m20 c) e3
    rw [if_neg (fun q => absurd (k1.mp q) (memj h).1), if_pos (k2.mpr (memj h).2.1), memRow, e1, e2, f1, f2, (memj h).2.2, wrap20 hs.2.2]
  | br j i c d =>
    obtain ⟨m1, m2⟩ := h
    clear m2
    obtain ⟨g1, g2, g3, g4, g5⟩ := hs
    rw [if_pos (k1.mpr (by simp only [t_of]; split <;> split <;> decide)), brRow, eu, e1, e2, e3]
    clear k1 k2 k3 eu e1 e2
    rcases j5 m1 with rfl | rfl | rfl | rfl | rfl
    · show some (Rw.br _ _ (sg24 (c % 16777216)) 0) = _
      rw [wrap24 (g1.resolve_left (by decide)), g4.resolve_left (by decide)]
      rfl
    · show some (Rw.br _ _ (sg24 (c % 16777216)) 0) = _
      rw [wrap24 (g1.resolve_left (by decide)), g4.resolve_left (by decide)]
      rfl
    · rw [low24 (show w % 16777216 = c from e3) (g2.resolve_left (by decide)), g4.resolve_left (by decide)]
      rfl
    · rw [low24 (show w % 16777216 = c from e3) (g2.resolve_left (by decide)), g4.resolve_left (by decide), show t_of (Rw.br 3 i c 0) = 13 from rfl, if_neg (by decide), if_neg (fun q => g3.resolve_left (by decide) q.2)]
      rfl
    · obtain ⟨f1, f2, f3⟩ := dig4 (g5.resolve_left (by decide)) (g2.resolve_left (by decide)) (show w % 16777216 = d * 256 + c * 16 + 12 from e3)
      rw [f1, f2, f3]
      rfl
end Mine

end

-- P14
section
open PySem PySem.W PyProof.Rows
namespace Mine
set_option maxRecDepth 100000
set_option maxHeartbeats 4000000
noncomputable def SomeInt (o : Out) : Prop := ∃ (v : Int) (k' : Nat), o = .ok (.d (.int v)) k'
theorem fm_cases (x : Int) (m : Int) (h : 0 < m) : 0 ≤ x.fmod m ∧ x.fmod m < m := ⟨Int.fmod_nonneg_of_pos x h, Int.fmod_lt_of_pos x h⟩
section
variable (δ : Nat → Int) (n k : Nat)
theorem s23 (lo hi : Int) (h : hi - lo + 1 ≠ 0) : SomeInt (evF δ tab (n + 2) 23 [.row, .d (.int lo), .d (.int hi)] k) := by
  have hb : ∀ x : Int, binD .Mod (.int x) (.int (hi - lo + 1)) = some (.int (x.fmod (hi - lo + 1))) := fun x => by simp only [binD, h, decide_false]
  refine wF_of (P := fun o => SomeInt o) rfl rfl rfl ?_
  obtain ⟨f0, f1⟩ := fm_cases (δ k) 6 (by decide)
  have : (δ k).fmod 6 = 0 ∨ (δ k).fmod 6 = 1 ∨ (δ k).fmod 6 = 2 ∨ (δ k).fmod 6 = 3 ∨ (δ k).fmod 6 = 4 ∨ (δ k).fmod 6 = 5 := by omega
  have r3 : (δ (k + 1)).fmod 3 = 0 ∨ (δ (k + 1)).fmod 3 = 1 ∨ (δ (k + 1)).fmod 3 = 2 := by
    obtain ⟨g0, g1⟩ := fm_cases (δ (k + 1)) 3 (by decide)
    omega
  have r2 : (δ (k + 1 + 1)).fmod 2 = 0 ∨ (δ (k + 1 + 1)).fmod 2 = 1 := q2 _
  rcases this with e | e | e | e | e | e
  · repeat' (first | ((conv => whnf); simp only [e]) | exact ⟨_, _, rfl⟩ | ((conv => whnf); exact ⟨_, _, rfl⟩) | fail)
  · repeat' (first | ((conv => whnf); simp only [e]) | exact ⟨_, _, rfl⟩ | ((conv => whnf); exact ⟨_, _, rfl⟩) | fail)
  · rcases r3 with e3 | e3 | e3 <;> rcases r2 with e2 | e2
    all_goals repeat' (first | ((conv => whnf); simp only [e]) | ((conv => whnf); simp only [e3]) | ((conv => whnf); simp only [e2]) | exact ⟨_, _, rfl⟩ | ((conv => whnf); exact ⟨_, _, rfl⟩) | fail)
  all_goals repeat' (first | ((conv => whnf); simp only [e]) | ((conv => whnf); simp only [hb]) | exact ⟨_, _, rfl⟩ | ((conv => whnf); exact ⟨_, _, rfl⟩) | fail)
end
end Mine

end

-- P15
section
open PySem PySem.W PyProof.Rows
namespace Mine
set_option maxRecDepth 100000
set_option maxHeartbeats 4000000
noncomputable def RowSome (o : Out) : Prop := ∃ (r : Rw) (k' : Nat), okR r ∧ o = .ok (.d (.tuple (toL r))) k'
theorem it_cd (x : Int) : itemD (.list [.str ⟨#[77, 73]⟩, .str ⟨#[69, 81]⟩, .str ⟨#[67, 83]⟩, .str ⟨#[86, 83]⟩, .str ⟨#[76, 83]⟩, .str ⟨#[76, 84]⟩, .str ⟨#[76, 69]⟩, .str ⟨#[65, 76]⟩, .str ⟨#[80, 76]⟩, .str ⟨#[78, 69]⟩, .str ⟨#[67, 67]⟩, .str ⟨#[86, 67]⟩, .str ⟨#[72, 73]⟩, .str ⟨#[71, 69]⟩, .str ⟨#[71, 84]⟩, .str ⟨#[78, 86]⟩]) (.int (x.fmod 16)) = some (.str (cdN (x.fmod 16).toNat)) := by
  rcases q16 x with e | e | e | e | e | e | e | e | e | e | e | e | e | e | e | e <;> rw [e] <;> rfl
theorem it_mem (x : Int) : itemD (.list [.str ⟨#[76, 68, 82]⟩, .str ⟨#[76, 68, 66]⟩, .str ⟨#[83, 84, 82]⟩, .str ⟨#[83, 84, 66]⟩]) (.int (x.fmod 4)) = some (.str (memN (x.fmod 4).toNat)) := by
  rcases q4 x with e | e | e | e <;> rw [e] <;> rfl
theorem it_b (x : Int) : itemD (.list [.str ⟨#[66]⟩, .str ⟨#[66, 76]⟩]) (.int (x.fmod 2)) = some (.str (brN (x.fmod 2).toNat)) := by
  rcases q2 x with e | e <;> rw [e] <;> rfl
theorem it_r (x : Int) : itemD (.list [.str ⟨#[66, 82]⟩, .str ⟨#[66, 76, 82]⟩]) (.int (x.fmod 2)) = some (.str (brN (2 + (x.fmod 2).toNat))) := by
  rcases q2 x with e | e <;> rw [e] <;> rfl
theorem it_2 (x : Int) (a b : PyData) : itemD (.list [a, b]) (.int (x.fmod 2)) = some a ∨ itemD (.list [a, b]) (.int (x.fmod 2)) = some b := by
  rcases q2 x with e | e <;> rw [e]
  · exact Or.inl rfl
  · exact Or.inr rfl
theorem q12 (x : Int) : x.fmod 12 = 0 ∨ x.fmod 12 = 1 ∨ x.fmod 12 = 2 ∨ x.fmod 12 = 3 ∨ x.fmod 12 = 4 ∨ x.fmod 12 = 5 ∨ x.fmod 12 = 6 ∨ x.fmod 12 = 7 ∨ x.fmod 12 = 8 ∨ x.fmod 12 = 9 ∨ x.fmod 12 = 10 ∨ x.fmod 12 = 11 := by
  obtain ⟨g0, g1⟩ := fm_cases x 12 (by decide)
  obtain ⟨i, e⟩ := Int.eq_ofNat_of_zero_le g0
  rw [e] at g1 ⊢
  exact (by decide : ∀ i : Nat, i < 12 → (i : Int) = 0 ∨ (i : Int) = 1 ∨ (i : Int) = 2 ∨ (i : Int) = 3 ∨ (i : Int) = 4 ∨ (i : Int) = 5 ∨ (i : Int) = 6 ∨ (i : Int) = 7 ∨ (i : Int) = 8 ∨ (i : Int) = 9 ∨ (i : Int) = 10 ∨ (i : Int) = 11) i (Int.ofNat_lt.mp g1)
theorem it_op (x : Int) : itemD (.list [.str ⟨#[77, 79, 86]⟩, .str ⟨#[76, 83, 76]⟩, .str ⟨#[65, 83, 82]⟩, .str ⟨#[82, 79, 82]⟩, .str ⟨#[65, 78, 68]⟩, .str ⟨#[65, 78, 78]⟩, .str ⟨#[73, 79, 82]⟩, .str ⟨#[88, 79, 82]⟩, .str ⟨#[65, 68, 68]⟩, .str ⟨#[83, 85, 66]⟩, .str ⟨#[77, 85, 76]⟩, .str ⟨#[68, 73, 86]⟩]) (.int (x.fmod 12)) = some (.str (opN (x.fmod 12).toNat)) := by
  rcases q12 x with e | e | e | e | e | e | e | e | e | e | e | e <;> rw [e] <;> rfl
theorem it_add (x : Int) : binD .Add (.str (opN (x.fmod 12).toNat)) (.str ⟨#[73]⟩) = some (.str (opIN (x.fmod 12).toNat)) := by
  rcases q12 x with e | e | e | e | e | e | e | e | e | e | e | e <;> rw [e] <;> rfl
theorem i12' (x : Int) : (x.fmod 12).toNat < 12 := by
  obtain ⟨g0, g1⟩ := fm_cases x 12 (by decide)
  omega
theorem q9 (x : Int) : x.fmod 9 = 0 ∨ x.fmod 9 = 1 ∨ x.fmod 9 = 2 ∨ x.fmod 9 = 3 ∨ x.fmod 9 = 4 ∨ x.fmod 9 = 5 ∨ x.fmod 9 = 6 ∨ x.fmod 9 = 7 ∨ x.fmod 9 = 8 := by
  obtain ⟨g0, g1⟩ := fm_cases x 9 (by decide)
  obtain ⟨i, e⟩ := Int.eq_ofNat_of_zero_le g0
  rw [e] at g1 ⊢
  exact (by decide : ∀ i : Nat, i < 9 → (i : Int) = 0 ∨ (i : Int) = 1 ∨ (i : Int) = 2 ∨ (i : Int) = 3 ∨ (i : Int) = 4 ∨ (i : Int) = 5 ∨ (i : Int) = 6 ∨ (i : Int) = 7 ∨ (i : Int) = 8) i (Int.ofNat_lt.mp g1)
theorem i16 (x : Int) : (x.fmod 16).toNat < 16 := by rw [fm16]; omega
theorem i4 (x : Int) : (x.fmod 4).toNat < 4 := by rw [fm4]; omega
theorem i2 (x : Int) : (x.fmod 2).toNat < 2 := by rw [fm2]; omega
section
variable (δ : Nat → Int) (n k : Nat)
theorem s23f (lo hi : Int) (h : hi - lo + 1 ≠ 0) : ∃ (f : Nat → Int) (g : Nat → Nat), ∀ k, evF δ tab (n + 2) 23 [.row, .d (.int lo), .d (.int hi)] k = .ok (.d (.int (f k))) (g k) :=
  ⟨fun k => (s23 δ n k lo hi h).choose, fun k => (s23 δ n k lo hi h).choose_spec.choose, fun k => (s23 δ n k lo hi h).choose_spec.choose_spec⟩
theorem s24 : RowSome (evF δ tab (n + 3) 24 [.row] k) := by
  refine wF_of (P := fun o => RowSome o) rfl rfl rfl ?_
  obtain ⟨f1, g1, b1⟩ := s23f δ n (-65536) 65535 (by decide)
  obtain ⟨f2, g2, b2⟩ := s23f δ n 0 65535 (by decide)
  obtain ⟨f3, g3, b3⟩ := s23f δ n (-524288) 524287 (by decide)
  obtain ⟨f4, g4, b4⟩ := s23f δ n (-8388608) 8388607 (by decide)
  obtain ⟨f5, g5, b5⟩ := s23f δ n 0 15 (by decide)
  conv => whnf
  simp only [it_cd]
  rcases q9 (δ k) with e | e | e | e | e | e | e | e | e
  · repeat' (first | ((conv => whnf); simp only [e]) | ((conv => whnf); simp only [it_op]) | ((conv => whnf); split) | fail)
    all_goals exact ⟨.op _ _ _ _, _, i12' _, rfl⟩
  · repeat' (first | ((conv => whnf); simp only [e]) | ((conv => whnf); simp only [it_op]) | ((conv => whnf); split) | fail)
    all_goals exact ⟨.op _ _ _ _, _, i12' _, rfl⟩
  · repeat' (first | ((conv => whnf); simp only [e]) | ((conv => whnf); simp only [it_op]) | ((conv => whnf); simp only [it_add]) | ((conv => whnf); simp only [b1]) | ((conv => whnf); split) | fail)
    all_goals exact ⟨.opI _ _ _ _, _, i12' _, rfl⟩
  · repeat' (first | ((conv => whnf); simp only [e]) | ((conv => whnf); simp only [it_op]) | ((conv => whnf); simp only [it_add]) | ((conv => whnf); simp only [b1]) | ((conv => whnf); split) | fail)
    all_goals exact ⟨.opI _ _ _ _, _, i12' _, rfl⟩
  · conv => whnf
    simp only [e]
    conv => whnf
    simp only [b2]
    conv => whnf
    rcases it_2 (δ (g2 (k + 1 + 1 + 1 + 1))) (.tuple [.str nMOVH, .int ((δ (k + 1)).fmod 16), .int 0, .int (f2 (k + 1 + 1 + 1 + 1))]) (.tuple [.str nGETH, .int ((δ (k + 1)).fmod 16), .int 0, .int 0]) with e2 | e2
    · simp only [nMOVH, nGETH] at e2
      simp only [e2]
      exact ⟨.movh _ _ _, _, trivial, rfl⟩
    · simp only [nMOVH, nGETH] at e2
      simp only [e2]
      exact ⟨.geth _ _ _, _, trivial, rfl⟩
  · repeat' (first | ((conv => whnf); simp only [e]) | ((conv => whnf); simp only [it_mem]) | ((conv => whnf); simp only [Int.reduceToNat, Int.reducePow, Int.reduceSub, Int.reduceNeg, b3]) | fail)
    exact ⟨.mem _ _ _ _, _, i4 _, rfl⟩
  · repeat' (first | ((conv => whnf); simp only [e]) | ((conv => whnf); simp only [it_b]) | ((conv => whnf); simp only [Int.reduceToNat, Int.reducePow, Int.reduceSub, Int.reduceNeg, b4]) | fail)
    exact ⟨.br _ _ _ _, _, ⟨Nat.lt_trans (i2 _) (by decide), i16 _⟩, rfl⟩
  · repeat' (first | ((conv => whnf); simp only [e]) | ((conv => whnf); simp only [it_r]) | fail)
    exact ⟨.br _ _ _ _, _, ⟨by have := i2 (δ (k + 1 + 1 + 1 + 1)); omega, i16 _⟩, rfl⟩
  · repeat' (first | ((conv => whnf); simp only [e]) | ((conv => whnf); simp only [b5]) | ((conv => whnf); simp only [b2]) | fail)
    exact ⟨.br 4 _ _ _, _, ⟨by decide, i16 _⟩, rfl⟩
end
end Mine

end

-- P16
section
open PySem PySem.W PyProof.Rows
namespace Mine
set_option maxRecDepth 100000
set_option maxHeartbeats 4000000
noncomputable def forS : MS := match b_law with | .cons _ (.cons s _) => s | _ => .ret (.lit .none)
noncomputable def loopB : MSs := match b_law with | .cons _ (.cons _ (.cons (.forR _ _ b) _)) => b | _ => .nil
noncomputable def restB : MSs := match loopB with | .cons _ (.cons _ (.cons _ (.cons _ (.cons _ r)))) => r | _ => .nil
noncomputable def oddS : MS := match b_law with | .cons _ (.cons _ (.cons _ (.cons s _))) => s | _ => .ret (.lit .none)
noncomputable def odd2S : MS := match b_law with | .cons _ (.cons _ (.cons _ (.cons _ (.cons s _)))) => s | _ => .ret (.lit .none)
noncomputable def endB : MSs := match b_law with | .cons _ (.cons _ (.cons _ (.cons _ (.cons _ r)))) => r | _ => .nil
noncomputable def slotV (i : Nat) : Res → V
  | .next ρ _ => match ρ[i]? with
    | some v => v
    | none => .un
  | _ => .un
noncomputable def frame0 : List V := [.un, .row, .un, .un, .un, .un, .un, .un, .un, .un, .un, .un]
noncomputable def oddV : V := slotV 4 (exS (fun _ _ _ => .bad) oddS frame0 0)
noncomputable def oddLast : V := .d (.tuple [.str ⟨#[65, 68, 68]⟩, .bool true, .int 0, .int 0])
section
variable (δ : Nat → Int) (n k : Nat)
theorem first_ok (s v2 v3 v4 v5 v6 v7 v8 v9 v10 v11 : V) : ∃ w2, exS (evF δ tab (n + 10)) forS [s, .row, v2, v3, v4, v5, v6, v7, v8, v9, v10, v11] k = .next [s, .row, w2, v3, v4, v5, v6, v7, v8, v9, v10, v11] k :=
  ⟨.d (.int 15), by kernel_rfl⟩
theorem odd_ok (s v2 v3 v4 v5 v6 v7 v8 v9 v10 v11 : V) : ∃ w4 w5, (match exS (evF δ tab (n + 10)) oddS [s, .row, v2, v3, v4, v5, v6, v7, v8, v9, v10, v11] k with | .next ρ k => exS (evF δ tab (n + 10)) odd2S ρ k | r => r) = .next [s, .row, v2, v3, w4, w5, v6, v7, v8, v9, v10, v11] k :=
  ⟨oddV, oddLast, by kernel_rfl⟩
end
end Mine

end

-- P17
section
open PySem PySem.W PyProof.Rows
namespace Mine
set_option maxRecDepth 100000
set_option maxHeartbeats 4000000
theorem xor_in (x y : Int) (hx : 0 ≤ x ∧ x ≤ 4294967295) (hy : 0 ≤ y ∧ y ≤ 4294967295) : 0 ≤ Builtin.bitXor x y ∧ Builtin.bitXor x y ≤ 4294967295 := by
  obtain ⟨a, rfl⟩ := Int.eq_ofNat_of_zero_le hx.1
  obtain ⟨b, rfl⟩ := Int.eq_ofNat_of_zero_le hy.1
  have hn : ∀ z : Int, Builtin.bitNot z = -z - 1 := fun z => by unfold Builtin.bitNot; omega
  have e1 : Builtin.bitAnd (a : Int) (b : Int) = ((a &&& b : Nat) : Int) := by
    unfold Builtin.bitAnd
    rw [decide_eq_true hx.1, decide_eq_true hy.1]
    rfl
  have e2 : Builtin.bitOr (a : Int) (b : Int) = ((a ||| b : Nat) : Int) := by
    unfold Builtin.bitOr Builtin.bitAnd
    rw [decide_eq_false (by rw [hn]; omega), decide_eq_false (by rw [hn]; omega)]
    simp only [hn]
    rw [show (-(-(a : Int) - 1) - 1).toNat = a by omega, show (-(-(b : Int) - 1) - 1).toNat = b by omega]
    omega
  unfold Builtin.bitXor
  rw [e1, e2]
  have h1 : a ||| b < 2 ^ 32 := Nat.or_lt_two_pow (by omega) (by omega)
  have h2 : a &&& b ≤ a := Nat.and_le_left
  have h3 : a ≤ a ||| b := Nat.left_le_or
  omega
end Mine

end

-- P18
section
open PySem PySem.W PyProof.Rows
namespace Mine
set_option maxRecDepth 100000
set_option maxHeartbeats 4000000
noncomputable def loopB' : MSs := match b_law with | .cons _ (.cons _ (.cons (.forR _ _ b) _)) => b | _ => .nil
noncomputable def restB' : MSs := match loopB' with | .cons _ (.cons _ (.cons _ (.cons _ (.cons _ r)))) => r | _ => .nil

theorem leq_refl : ∀ l : List Nat, leq l l = true
  | [] => rfl
  | a :: r => by
    rw [leq, show Nat.beq a a = true from Nat.beq_refl a]
    exact leq_refl r
theorem eqL_toL (r : Rw) : eqL (toL r) (toL r) = some true := by
  cases r <;> simp [toL, eqL, eqS, leq_refl]
theorem ne_toL (r : Rw) : cmpD .NotEq (.tuple (toL r)) (.tuple (toL r)) = some false := by
  simp [cmpD, eqD, eqL_toL]
section
variable (δ : Nat → Int) (n k : Nat)
theorem s27 (w : Int) (h : 0 ≤ w ∧ w ≤ 4294967295) : ReadIs (evF δ tab (n + 10) 27 [.d (.int w)] k) k (readL w) := by
  unfold readL
  by_cases h1 : 3221225472 ≤ w
  · rw [if_pos h1]
    exact s27A δ (n + 8) k w h1 (by omega)
  · rw [if_neg h1]
    by_cases h2 : 2147483648 ≤ w
    · rw [if_pos h2]
      exact s27B δ (n + 8) k w h2 (by omega)
    · rw [if_neg h2]
      by_cases h3 : w < 1073741824
      · exact s27C0 δ (n + 8) k w h.1 h3
      · exact s27C1 δ (n + 8) k w (by omega) (by omega)
theorem sDec (w : Int) (h : 0 ≤ w ∧ w ≤ 4294967295) : (evF δ tab (n + 10) 2 [.d (.int w)] k = .ok (.d (.str tBad)) k ∧ ∀ r, readD w = some r → ¬ (sndR r ∧ wrd r = w)) ∨ ∃ r, evF δ tab (n + 10) 2 [.d (.int w)] k = .ok (.d (.tuple (toL r))) k ∧ readD w = some r ∧ sndR r ∧ wrd r = w := by
  rcases s4_in δ (n + 3) k w h with ⟨e, q⟩ | ⟨r, e, q⟩
  · refine Or.inl ⟨?_, q⟩
    show (match evF δ tab (n + 9) 4 [.d (.int w)] k with | .ok v k => Out.ok v k | .exc k => .ok (.d (.str tBad)) k | .bad => .bad) = _
    rw [show evF δ tab (n + 9) 4 [.d (.int w)] k = _ from e]
  · refine Or.inr ⟨r, ?_, q⟩
    show (match evF δ tab (n + 9) 4 [.d (.int w)] k with | .ok v k => Out.ok v k | .exc k => .ok (.d (.str tBad)) k | .bad => .bad) = _
    rw [show evF δ tab (n + 9) 4 [.d (.int w)] k = _ from e]

noncomputable def Sh (s : V) (ρ : List V) : Prop := ∃ v2 v3 v4 v5 v6 v7 v8 v9 v10 v11, ρ = [s, .row, v2, v3, v4, v5, v6, v7, v8, v9, v10, v11]
noncomputable def NextSh (s : V) (r : Res) : Prop := ∃ ρ k', r = .next ρ k' ∧ Sh s ρ

theorem rest_ok (s v2 v3 v4 v5 v6 v7 v8 v10 v11 : V) (w : Int) (h : 0 ≤ w ∧ w ≤ 4294967295) : wSs (evF δ tab (n + 10)) restB' [s, .row, v2, v3, v4, v5, v6, v7, v8, .d (.int w), v10, v11] k (fun r => NextSh s r) := by
  rcases s27 δ n k w h with ⟨e27, eL⟩ | ⟨r, e27, eL⟩
  · rcases sDec δ n k w h with ⟨e2, _⟩ | ⟨r, e2, q1, q2, q3⟩
    · conv => whnf
      simp only [e27]
      conv => whnf
      simp only [e2]
      exact ⟨_, _, rfl, _, _, _, _, _, _, _, _, _, _, rfl⟩
    · have := (agree h.1 h.2 q2 q3).mp q1
      rw [eL] at this
      cases this
  · have hok := ok_L h.2 eL
    obtain ⟨b, e25, hb⟩ : BoolIs (evF δ tab (n + 10) 25 [.d (.tuple (toL r))] k) k (sndR r) := s25 δ (n + 8) k r hok
    have e26 : evF δ tab (n + 10) 26 [.d (.tuple (toL r))] k = .ok (.d (.int (wrd r))) k := (s26 δ (n + 8) k r hok).eq
    by_cases hs : sndR r ∧ wrd r = w
    · have hD := (agree h.1 h.2 hs.1 hs.2).mpr eL
      obtain rfl := hb.mpr hs.1
      rcases sDec δ n k w h with ⟨e2, q⟩ | ⟨r', e2, q1, q2, q3⟩
      · exact absurd hs (q r hD)
      · rw [hD] at q1
        cases q1
        conv => whnf
        simp only [e27]
        conv => whnf
        simp only [e25]
        conv => whnf
        simp only [e26]
        conv => whnf
        simp only [hs.2, decide_true]
        conv => whnf
        simp only [e2]
        conv => whnf
        simp only [ne_toL]
        exact ⟨_, _, rfl, _, _, _, _, _, _, _, _, _, _, rfl⟩
    · have e2 : evF δ tab (n + 10) 2 [.d (.int w)] k = .ok (.d (.str tBad)) k := by
        rcases sDec δ n k w h with ⟨e2, _⟩ | ⟨r', e2, q1, q2, q3⟩
        · exact e2
        · have z := (agree h.1 h.2 q2 q3).mp q1
          rw [eL] at z
          cases z
          exact absurd ⟨q2, q3⟩ hs
      cases b with
      | false =>
        conv => whnf
        simp only [e27]
        conv => whnf
        simp only [e25]
        conv => whnf
        simp only [e2]
        exact ⟨_, _, rfl, _, _, _, _, _, _, _, _, _, _, rfl⟩
      | true =>
        have hw : ¬ wrd r = w := fun z => hs ⟨hb.mp rfl, z⟩
        conv => whnf
        simp only [e27]
        conv => whnf
        simp only [e25]
        conv => whnf
        simp only [e26]
        conv => whnf
        simp only [hw, decide_false]
        conv => whnf
        simp only [e2]
        exact ⟨_, _, rfl, _, _, _, _, _, _, _, _, _, _, rfl⟩
end
end Mine

end

-- P19
section
open PySem PySem.W PyProof.Rows
namespace Mine
set_option maxRecDepth 100000
set_option maxHeartbeats 4000000
theorem pow_in (x : Int) : 0 ≤ (2 : Int) ^ (x.fmod 32).toNat ∧ (2 : Int) ^ (x.fmod 32).toNat ≤ 4294967295 := by
  obtain ⟨g0, g1⟩ := fm_cases x 32 (by decide)
  have h : (x.fmod 32).toNat < 32 := by omega
  have := Nat.pow_lt_pow_right (a := 2) (by decide) h
  have e : ((2 : Int) ^ (x.fmod 32).toNat) = ((2 ^ (x.fmod 32).toNat : Nat) : Int) := by rw [Int.natCast_pow]; rfl
  have e32 : (2 : Nat) ^ 32 = 4294967296 := by decide
  have hp := Nat.pow_pos (n := (x.fmod 32).toNat) (show 0 < 2 by decide)
  rw [e]
  omega
theorem bin_pow (x : Int) : binD .Pow (.int 2) (.int (x.fmod 32)) = some (.int ((2 : Int) ^ (x.fmod 32).toNat)) := by
  obtain ⟨g0, g1⟩ := fm_cases x 32 (by decide)
  simp only [binD, show small 2 = true from rfl, decide_eq_true g0, decide_eq_true (show x.fmod 32 ≤ 1000 by omega)]
section
variable (δ : Nat → Int) (n k : Nat)
theorem enc_ok (r : Rw) (h : okR r) (hs : sndR r) : evF δ tab (n + 10) 1 [.d (.tuple (toL r))] k = .ok (.d (.int (wrd r))) k := by
  show (match evF δ tab (n + 9) 3 [.d (.tuple (toL r))] k with | .ok v k => Out.ok v k | .exc k => .ok (.d (.str tBad)) k | .bad => .bad) = _
  rw [show evF δ tab (n + 9) 3 [.d (.tuple (toL r))] k = _ from s3_ok δ (n + 4) k r h hs]
theorem enc_bad (r : Rw) (h : okR r) (hs : ¬ sndR r) : evF δ tab (n + 10) 1 [.d (.tuple (toL r))] k = .ok (.d (.str tBad)) k := by
  show (match evF δ tab (n + 9) 3 [.d (.tuple (toL r))] k with | .ok v k => Out.ok v k | .exc k => .ok (.d (.str tBad)) k | .bad => .bad) = _
  rw [show evF δ tab (n + 9) 3 [.d (.tuple (toL r))] k = _ from s3_bad δ (n + 4) k r h hs]
theorem dec_ok (r : Rw) (h : okR r) (hs : sndR r) : evF δ tab (n + 10) 4 [.d (.int (wrd r))] k = .ok (.d (.tuple (toL r))) k := by
  rcases s4_in δ (n + 4) k (wrd r) (wrd_in r h hs) with ⟨e, q⟩ | ⟨r', e, q1, q2, q3⟩
  · exact absurd ⟨hs, rfl⟩ (q r (inverse r h hs))
  · rw [inverse r h hs] at q1
    cases q1
    exact e

theorem body_ok (s v2 v3 v4 v5 v6 v7 v8 v9 v10 v11 : V) : NextSh s (exSs (evF δ tab (n + 10)) loopB' [s, .row, v2, v3, v4, v5, v6, v7, v8, v9, v10, v11] k) := by
  obtain ⟨r, k1, hok, e24⟩ : RowSome (evF δ tab (n + 10) 24 [.row] k) := s24 δ (n + 7) k
  obtain ⟨l, e15, hl⟩ : FaultIs (evF δ tab (n + 10) 15 [.d (.tuple (toL r))] k1) k1 (sndR r) := s15 δ (n + 6) k1 r hok
  obtain ⟨b, e25, hb⟩ : BoolIs (evF δ tab (n + 10) 25 [.d (.tuple (toL r))] k1) k1 (sndR r) := s25 δ (n + 8) k1 r hok
  have e26 : ∀ k, evF δ tab (n + 10) 26 [.d (.tuple (toL r))] k = .ok (.d (.int (wrd r))) k := fun k => (s26 δ (n + 8) k r hok).eq
  have hw : ∀ a b c : Int, 0 ≤ (a * 2 ^ Int.toNat 22 + b * 2 ^ Int.toNat 11 + c).fmod (2 ^ Int.toNat 32) ∧ (a * 2 ^ Int.toNat 22 + b * 2 ^ Int.toNat 11 + c).fmod (2 ^ Int.toNat 32) ≤ 4294967295 := fun a b c => by
    simp only [Int.reduceToNat, Int.reducePow, fm32]
    omega
  have hrest := rest_ok δ n
  refine wSs_of _ _ _ _ (fun r => NextSh s r) ?_
  conv => whnf
  simp only [e24]
  conv => whnf
  simp only [e25]
  conv => whnf
  simp only [e15]
  by_cases hs : sndR r
  · obtain rfl := hl.mpr hs
    obtain rfl := hb.mpr hs
    have e1 := enc_ok δ n k1 r hok hs
    conv => whnf
    simp only [e1]
    conv => whnf
    simp only [e26]
    conv => whnf
    simp only [decide_true, Bool.not_true]
    conv => whnf
    simp only [e26]
    conv => whnf
    simp only [dec_ok δ n _ r hok hs]
    conv => whnf
    simp only [ne_toL]
    conv => whnf
    rcases q2 (δ (k1 + 1 + 1 + 1)) with e2 | e2
    · simp only [e2]
      exact rest_ok δ n _ s v2 v3 v4 v5 v6 (.d (.tuple (toL r))) (.d (.bool true)) v10 v11 _ (hw _ _ _)
    · simp only [e2]
      conv => whnf
      simp only [bin_pow]
      conv => whnf
      simp only [e26]
      exact rest_ok δ n _ s v2 v3 v4 v5 v6 (.d (.tuple (toL r))) (.d (.bool true)) v10 _ _ (xor_in _ _ (wrd_in r hok hs) (pow_in _))
  · cases b with
    | true => exact absurd (hb.mp rfl) hs
    | false =>
      cases l with
      | nil => exact absurd (hl.mp rfl) hs
      | cons x t =>
        have e1 := enc_bad δ n k1 r hok hs
        conv => whnf
        simp only [e1]
        exact rest_ok δ n _ s v2 v3 v4 v5 v6 (.d (.tuple (toL r))) (.d (.bool false)) v10 v11 _ (hw _ _ _)
end
end Mine

end

-- P20
section
open PySem PySem.W PyProof.Rows
namespace Mine
set_option maxRecDepth 100000
set_option maxHeartbeats 4000000
theorem sh_set {s : V} {ρ : List V} (h : Sh s ρ) (x : V) : Sh s (ρ.set 3 x) := by
  obtain ⟨v2, v3, v4, v5, v6, v7, v8, v9, v10, v11, rfl⟩ := h
  exact ⟨v2, x, v4, v5, v6, v7, v8, v9, v10, v11, rfl⟩
theorem turns_ok (δ : Nat → Int) (n : Nat) (s : V) : ∀ (xs : List PyData) (ρ : List V) (k : Nat), Sh s ρ → NextSh s (turns (exSs (evF δ tab (n + 10)) loopB') 3 xs ρ k)
  | [], ρ, k, h => ⟨ρ, k, rfl, h⟩
  | x :: xs, ρ, k, h => by
    obtain ⟨v2, v3, v4, v5, v6, v7, v8, v9, v10, v11, e⟩ := sh_set h (.d x)
    obtain ⟨ρ', k', e', h'⟩ := body_ok δ n k s v2 v3 v4 v5 v6 v7 v8 v9 v10 v11
    rw [turns, e, e']
    exact turns_ok δ n s xs ρ' k' h'
noncomputable def firstS : MS := match b_law with | .cons s _ => s | _ => .ret (.lit .none)
noncomputable def loopS : MS := match b_law with | .cons _ (.cons _ (.cons s _)) => s | _ => .ret (.lit .none)
theorem cons_next {C : Nat → List V → Nat → Out} {s : MS} {r : MSs} {ρ ρ' : List V} {k k' : Nat} (e : exS C s ρ k = .next ρ' k') : exSs C (.cons s r) ρ k = exSs C r ρ' k' := by rw [exSs, e]
section
variable (δ : Nat → Int) (n k : Nat)
theorem loop_ok (s : V) (ρ : List V) (h : Sh s ρ) : NextSh s (exS (evF δ tab (n + 10)) loopS ρ k) := by
  have ht := turns_ok δ n s (upto (1 + (δ k).fmod 3).toNat 0) ρ (k + 1) h
  obtain ⟨g0, g1⟩ := fm_cases (δ k) 3 (by decide)
  obtain ⟨v2, v3, v4, v5, v6, v7, v8, v9, v10, v11, rfl⟩ := h
  have e : exS (evF δ tab (n + 10)) loopS [s, .row, v2, v3, v4, v5, v6, v7, v8, v9, v10, v11] k = (match decide (0 ≤ 1 + (δ k).fmod 3), decide (1 + (δ k).fmod 3 ≤ 1000) with
    | true, true => turns (exSs (evF δ tab (n + 10)) loopB') 3 (upto (1 + (δ k).fmod 3).toNat 0) [s, .row, v2, v3, v4, v5, v6, v7, v8, v9, v10, v11] (k + 1)
    | _, _ => .bad) := rfl
  rw [e, decide_eq_true (show 0 ≤ 1 + (δ k).fmod 3 by omega), decide_eq_true (show 1 + (δ k).fmod 3 ≤ 1000 by omega)]
  exact ht
theorem end_ok (ns : List Int) (v2 v3 v4 v5 v6 v7 v8 v9 v10 v11 : V) : ∃ k', exSs (evF δ tab (n + 10)) endB [.d (.list (ns.map PyData.int)), .row, v2, v3, v4, v5, v6, v7, v8, v9, v10, v11] k = .ret (.d (.bool true)) k' := by
  refine wSs_of _ _ _ _ (fun r => ∃ k', r = .ret (.d (.bool true)) k') ?_
  have hbad : ∀ w : Int, ¬ (0 ≤ w ∧ w ≤ 4294967295) → evF δ tab (n + 10) 2 [.d (.int w)] k = .ok (.d (.str tBad)) k := fun w h => by
    show (match evF δ tab (n + 9) 4 [.d (.int w)] k with | .ok v k => Out.ok v k | .exc k => .ok (.d (.str tBad)) k | .bad => .bad) = _
    rw [show evF δ tab (n + 9) 4 [.d (.int w)] k = _ from s4_out δ (n + 3) k w h]
  cases ns with
  | nil =>
    conv => whnf
    exact ⟨_, rfl⟩
  | cons x r =>
    by_cases h1 : 0 ≤ x
    · by_cases h2 : x < 4294967296
      · conv => whnf
        simp only [h1, decide_true]
        conv => whnf
        simp only [Int.reduceToNat, Int.reducePow, h2, decide_true]
        exact ⟨_, rfl⟩
      · conv => whnf
        simp only [h1, decide_true]
        conv => whnf
        simp only [Int.reduceToNat, Int.reducePow, h2, decide_false]
        conv => whnf
        simp only [hbad x (by omega)]
        exact ⟨_, rfl⟩
    · conv => whnf
      simp only [h1, decide_false]
      conv => whnf
      simp only [hbad x (by omega)]
      exact ⟨_, rfl⟩
theorem first_if (ρ : List V) : exS (evF δ tab (n + 10)) firstS ρ k = .next ρ k := rfl
end
theorem law_plain (ns : List Int) (δ : Nat → Int) : ∃ k, exSs (evF δ tab 30) b_law [.d (.list (ns.map PyData.int)), .row, .un, .un, .un, .un, .un, .un, .un, .un, .un, .un] 0 = .ret (.d (.bool true)) k := by
  show ∃ k, exSs (evF δ tab (20 + 10)) (.cons firstS (.cons forS (.cons loopS (.cons oddS (.cons odd2S endB))))) [.d (.list (ns.map PyData.int)), .row, .un, .un, .un, .un, .un, .un, .un, .un, .un, .un] 0 = _
  rw [cons_next (first_if δ 20 0 _)]
  obtain ⟨w2, e⟩ := first_ok δ 20 0 (.d (.list (ns.map PyData.int))) .un .un .un .un .un .un .un .un .un .un
  rw [cons_next e]
  obtain ⟨ρ, k, e2, h2⟩ := loop_ok δ 20 0 (.d (.list (ns.map PyData.int))) _ ⟨w2, .un, .un, .un, .un, .un, .un, .un, .un, .un, rfl⟩
  rw [cons_next e2]
  obtain ⟨v2, v3, v4, v5, v6, v7, v8, v9, v10, v11, rfl⟩ := h2
  obtain ⟨w4, w5, e3⟩ := odd_ok δ 20 k (.d (.list (ns.map PyData.int))) v2 v3 v4 v5 v6 v7 v8 v9 v10 v11
  obtain ⟨k', e4⟩ := end_ok δ 20 k ns v2 v3 w4 w5 v6 v7 v8 v9 v10 v11
  refine ⟨k', ?_⟩
  rw [exSs]
  revert e3
  cases exS (evF δ tab (20 + 10)) oddS [.d (.list (ns.map PyData.int)), .row, v2, v3, v4, v5, v6, v7, v8, v9, v10, v11] k with
  | next ρ k1 =>
    intro e3
    dsimp only at e3 ⊢
    rw [cons_next e3]
    exact e4
  | ret v k1 => intro e3; cases e3
  | exc k1 => intro e3; cases e3
  | bad => intro e3; cases e3
end Mine

end

-- the end
open PySem PySem.W PyProof.Rows PySem.Calls
set_option maxRecDepth 100000 in
set_option maxHeartbeats 8000000 in
theorem PySem.Challenge.cw_pb0328_01_holds : PySem.Challenge.rw_pb0328_01.Holds := by
  w_on
  refine holds_law Mine.said_ok fun said => ?_
  refine holds_open (q := Mine.vw) (loose := []) (Xt := fun s => xlAt Mine.vw [] s && recOk (RowW.records Mine.rwW) s) (XP := XL Mine.vw []) (Yf := Mine.hook.obs) (Ya := Mine.hook.val) (YP := Mine.hook.says) (N := 2946) Mine.left_ok Mine.hook.of Mine.hook.keeps (fun s e => xl_of s (Bool.and_eq_true_iff.mp e).1) XL.keeps (by rfl) (by rfl) (by rfl) (fun s e => recFacts_of (Bool.and_eq_true_iff.mp e).2) (by rfl) said (by decide +kernel) ⟨rfl, rfl, rfl, rfl, rfl, by decide +kernel⟩ ?hw ?hc
  case hw => w_witness2
  w_strict (
    intro w s₀ s₁ mg mb G Y fa o pm cd doc dV kV ho hd hcd hD hmg hg args vals as hpre hlay hrd hwl hlo
    have KX : Mine.Says w.params s₁.heap (s₁.heap.nsMap mainGlobals) := Y
    have X := (Ground.X G).1
    have V := (Ground.X G).2
    refine Ground.open G ?_
    intro T B D TE TW
    rw [← T.g.eq_nsMap] at KX
    have KT : Mine.TopM w.params mg mb s₁.heap := ⟨⟨_, _, T⟩, KX⟩
    try (refine guard_noD D (by decide +kernel) ?_; clear D)
    obtain ⟨_, _, M⟩ := bmod_of_top T
    have TA := at_of_top T
    try (obtain ⟨_, _, he, B0⟩ := based_of_top T rfl hmg ho hd; have he' : cd = _ := he; subst he'; clear he)
    clear hmg
    wrow_args hpre hlay hrd hwl hlo
    all_goals (
      first | refine callC_kw (enter_call ?_) | refine enter_call ?_ | refine callC_kw (enter_callW ?_) | refine enter_callW ?_ | w_how
      w_top on
      try refine codeAny_mono ?_ (fun _ _ g => GoodW.toG g)
      have K0 := below_caller (Top.heap T)
      w_call any ho hd hcd hD T F
      clear hd TA
      k_drop
      skip)
    all_goals try k_fold)
  refine Mine.law_all (p := Mine.vw) (loose := []) (by assumption) ?_ (by assumption) (by assumption) (by assumption) (by assumption) (by omega) (fun δ _ => Mine.law_plain _ δ) ?_
  · refine ⟨_, _, _, _, _, _, rfl, ?_, rfl, rfl, rfl, rfl⟩
    unfold Mine.b_law
    repeat' constructor
    all_goals first | rfl | kernel_rfl | exact fun _ => ⟨_, rfl⟩ | exact fun _ _ => rfl
  · intro h' tk' hk
    refine ⟨.inl ⟨_, .bool true, [], rfl, fun _ => rfl, .bool true, ?_, unshared_nil⟩, hk, rfl, by assumption⟩
    wrow_post
