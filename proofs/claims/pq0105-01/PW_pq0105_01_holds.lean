import PyProof.Rows.All
import Wide.All
import OpenK.AllK
import Wide.FinOn
import Lean
import PySem.Challenge.RW_pq0105_01
set_option maxRecDepth 1000000
set_option linter.all false
set_option genInjectivity false
set_option genSizeOf false
open PySem PySem.W PySem.Calls PyProof.Rows
set_option Elab.async false
set_option compiler.extract_closed false
set_option compiler.reuse false
noncomputable section
set_option tactic.hygienic false
namespace Mine
theorem x1 {A1:Sort _} {P:A1 -> Prop} {C:Prop} (h:∃ a1,P a1) (k:∀ a1,P a1 -> C):C:=h.elim λ a1 h=>k a1 h
theorem y1 {A1:Sort _} {P:A1 -> Prop} (a1:A1) (h:P a1):∃ a1,P a1:=⟨a1,h⟩
theorem x2 {A1 A2:Sort _} {P:A1 -> A2 -> Prop} {C:Prop} (h:∃ a1,∃ a2,P a1 a2) (k:∀ a1 a2,P a1 a2 -> C):C:=h.elim λ a1 h=>h.elim λ a2 h=>k a1 a2 h
theorem y2 {A1 A2:Sort _} {P:A1 -> A2 -> Prop} (a1:A1) (a2:A2) (h:P a1 a2):∃ a1,∃ a2,P a1 a2:=⟨a1,a2,h⟩
theorem x3 {A1 A2 A3:Sort _} {P:A1 -> A2 -> A3 -> Prop} {C:Prop} (h:∃ a1,∃ a2,∃ a3,P a1 a2 a3) (k:∀ a1 a2 a3,P a1 a2 a3 -> C):C:=h.elim λ a1 h=>h.elim λ a2 h=>h.elim λ a3 h=>k a1 a2 a3 h
theorem y3 {A1 A2 A3:Sort _} {P:A1 -> A2 -> A3 -> Prop} (a1:A1) (a2:A2) (a3:A3) (h:P a1 a2 a3):∃ a1,∃ a2,∃ a3,P a1 a2 a3:=⟨a1,a2,a3,h⟩
theorem x4 {A1 A2 A3 A4:Sort _} {P:A1 -> A2 -> A3 -> A4 -> Prop} {C:Prop} (h:∃ a1,∃ a2,∃ a3,∃ a4,P a1 a2 a3 a4) (k:∀ a1 a2 a3 a4,P a1 a2 a3 a4 -> C):C:=h.elim λ a1 h=>h.elim λ a2 h=>h.elim λ a3 h=>h.elim λ a4 h=>k a1 a2 a3 a4 h
theorem y4 {A1 A2 A3 A4:Sort _} {P:A1 -> A2 -> A3 -> A4 -> Prop} (a1:A1) (a2:A2) (a3:A3) (a4:A4) (h:P a1 a2 a3 a4):∃ a1,∃ a2,∃ a3,∃ a4,P a1 a2 a3 a4:=⟨a1,a2,a3,a4,h⟩
theorem x5 {A1 A2 A3 A4 A5:Sort _} {P:A1 -> A2 -> A3 -> A4 -> A5 -> Prop} {C:Prop} (h:∃ a1,∃ a2,∃ a3,∃ a4,∃ a5,P a1 a2 a3 a4 a5) (k:∀ a1 a2 a3 a4 a5,P a1 a2 a3 a4 a5 -> C):C:=h.elim λ a1 h=>h.elim λ a2 h=>h.elim λ a3 h=>h.elim λ a4 h=>h.elim λ a5 h=>k a1 a2 a3 a4 a5 h
theorem y5 {A1 A2 A3 A4 A5:Sort _} {P:A1 -> A2 -> A3 -> A4 -> A5 -> Prop} (a1:A1) (a2:A2) (a3:A3) (a4:A4) (a5:A5) (h:P a1 a2 a3 a4 a5):∃ a1,∃ a2,∃ a3,∃ a4,∃ a5,P a1 a2 a3 a4 a5:=⟨a1,a2,a3,a4,a5,h⟩
theorem x6 {A1 A2 A3 A4 A5 A6:Sort _} {P:A1 -> A2 -> A3 -> A4 -> A5 -> A6 -> Prop} {C:Prop} (h:∃ a1,∃ a2,∃ a3,∃ a4,∃ a5,∃ a6,P a1 a2 a3 a4 a5 a6) (k:∀ a1 a2 a3 a4 a5 a6,P a1 a2 a3 a4 a5 a6 -> C):C:=h.elim λ a1 h=>h.elim λ a2 h=>h.elim λ a3 h=>h.elim λ a4 h=>h.elim λ a5 h=>h.elim λ a6 h=>k a1 a2 a3 a4 a5 a6 h
theorem y6 {A1 A2 A3 A4 A5 A6:Sort _} {P:A1 -> A2 -> A3 -> A4 -> A5 -> A6 -> Prop} (a1:A1) (a2:A2) (a3:A3) (a4:A4) (a5:A5) (a6:A6) (h:P a1 a2 a3 a4 a5 a6):∃ a1,∃ a2,∃ a3,∃ a4,∃ a5,∃ a6,P a1 a2 a3 a4 a5 a6:=⟨a1,a2,a3,a4,a5,a6,h⟩
theorem x7 {A1 A2 A3 A4 A5 A6 A7:Sort _} {P:A1 -> A2 -> A3 -> A4 -> A5 -> A6 -> A7 -> Prop} {C:Prop} (h:∃ a1,∃ a2,∃ a3,∃ a4,∃ a5,∃ a6,∃ a7,P a1 a2 a3 a4 a5 a6 a7) (k:∀ a1 a2 a3 a4 a5 a6 a7,P a1 a2 a3 a4 a5 a6 a7 -> C):C:=h.elim λ a1 h=>h.elim λ a2 h=>h.elim λ a3 h=>h.elim λ a4 h=>h.elim λ a5 h=>h.elim λ a6 h=>h.elim λ a7 h=>k a1 a2 a3 a4 a5 a6 a7 h
theorem y7 {A1 A2 A3 A4 A5 A6 A7:Sort _} {P:A1 -> A2 -> A3 -> A4 -> A5 -> A6 -> A7 -> Prop} (a1:A1) (a2:A2) (a3:A3) (a4:A4) (a5:A5) (a6:A6) (a7:A7) (h:P a1 a2 a3 a4 a5 a6 a7):∃ a1,∃ a2,∃ a3,∃ a4,∃ a5,∃ a6,∃ a7,P a1 a2 a3 a4 a5 a6 a7:=⟨a1,a2,a3,a4,a5,a6,a7,h⟩
theorem n2 {a1 a2 C:Prop} (h:a1 /\ a2) (k:a1 -> a2 -> C):C:=k (h.1) (h.2)
theorem m2 {a1 a2:Prop} (h:a1) (k:a2):a1 /\ a2:=⟨h,k⟩
theorem n3 {a1 a2 a3 C:Prop} (h:a1 /\ a2 /\ a3) (k:a1 -> a2 -> a3 -> C):C:=k (h.1) (h.2.1) (h.2.2)
theorem m3 {a1 a2 a3:Prop} (ha1:a1) (ha2:a2) (ha3:a3):a1 /\ a2 /\ a3:=⟨ha1,ha2,ha3⟩
theorem n4 {a1 a2 a3 a4 C:Prop} (h:a1 /\ a2 /\ a3 /\ a4) (k:a1 -> a2 -> a3 -> a4 -> C):C:=k (h.1) (h.2.1) (h.2.2.1) (h.2.2.2)
theorem m4 {a1 a2 a3 a4:Prop} (ha1:a1) (ha2:a2) (ha3:a3) (ha4:a4):a1 /\ a2 /\ a3 /\ a4:=⟨ha1,ha2,ha3,ha4⟩
theorem n5 {a1 a2 a3 a4 a5 C:Prop} (h:a1 /\ a2 /\ a3 /\ a4 /\ a5) (k:a1 -> a2 -> a3 -> a4 -> a5 -> C):C:=k (h.1) (h.2.1) (h.2.2.1) (h.2.2.2.1) (h.2.2.2.2)
theorem m5 {a1 a2 a3 a4 a5:Prop} (ha1:a1) (ha2:a2) (ha3:a3) (ha4:a4) (ha5:a5):a1 /\ a2 /\ a3 /\ a4 /\ a5:=⟨ha1,ha2,ha3,ha4,ha5⟩
theorem n6 {a1 a2 a3 a4 a5 a6 C:Prop} (h:a1 /\ a2 /\ a3 /\ a4 /\ a5 /\ a6) (k:a1 -> a2 -> a3 -> a4 -> a5 -> a6 -> C):C:=k (h.1) (h.2.1) (h.2.2.1) (h.2.2.2.1) (h.2.2.2.2.1) (h.2.2.2.2.2)
theorem m6 {a1 a2 a3 a4 a5 a6:Prop} (ha1:a1) (ha2:a2) (ha3:a3) (ha4:a4) (ha5:a5) (ha6:a6):a1 /\ a2 /\ a3 /\ a4 /\ a5 /\ a6:=⟨ha1,ha2,ha3,ha4,ha5,ha6⟩
theorem n7 {a1 a2 a3 a4 a5 a6 a7 C:Prop} (h:a1 /\ a2 /\ a3 /\ a4 /\ a5 /\ a6 /\ a7) (k:a1 -> a2 -> a3 -> a4 -> a5 -> a6 -> a7 -> C):C:=k (h.1) (h.2.1) (h.2.2.1) (h.2.2.2.1) (h.2.2.2.2.1) (h.2.2.2.2.2.1) (h.2.2.2.2.2.2)
theorem m7 {a1 a2 a3 a4 a5 a6 a7:Prop} (ha1:a1) (ha2:a2) (ha3:a3) (ha4:a4) (ha5:a5) (ha6:a6) (ha7:a7):a1 /\ a2 /\ a3 /\ a4 /\ a5 /\ a6 /\ a7:=⟨ha1,ha2,ha3,ha4,ha5,ha6,ha7⟩
theorem n8 {a1 a2 a3 a4 a5 a6 a7 a8 C:Prop} (h:a1 /\ a2 /\ a3 /\ a4 /\ a5 /\ a6 /\ a7 /\ a8) (k:a1 -> a2 -> a3 -> a4 -> a5 -> a6 -> a7 -> a8 -> C):C:=k (h.1) (h.2.1) (h.2.2.1) (h.2.2.2.1) (h.2.2.2.2.1) (h.2.2.2.2.2.1) (h.2.2.2.2.2.2.1) (h.2.2.2.2.2.2.2)
theorem m8 {a1 a2 a3 a4 a5 a6 a7 a8:Prop} (ha1:a1) (ha2:a2) (ha3:a3) (ha4:a4) (ha5:a5) (ha6:a6) (ha7:a7) (ha8:a8):a1 /\ a2 /\ a3 /\ a4 /\ a5 /\ a6 /\ a7 /\ a8:=⟨ha1,ha2,ha3,ha4,ha5,ha6,ha7,ha8⟩
theorem n9 {a1 a2 a3 a4 a5 a6 a7 a8 a9 C:Prop} (h:a1 /\ a2 /\ a3 /\ a4 /\ a5 /\ a6 /\ a7 /\ a8 /\ a9) (k:a1 -> a2 -> a3 -> a4 -> a5 -> a6 -> a7 -> a8 -> a9 -> C):C:=k (h.1) (h.2.1) (h.2.2.1) (h.2.2.2.1) (h.2.2.2.2.1) (h.2.2.2.2.2.1) (h.2.2.2.2.2.2.1) (h.2.2.2.2.2.2.2.1) (h.2.2.2.2.2.2.2.2)
theorem m9 {a1 a2 a3 a4 a5 a6 a7 a8 a9:Prop} (ha1:a1) (ha2:a2) (ha3:a3) (ha4:a4) (ha5:a5) (ha6:a6) (ha7:a7) (ha8:a8) (ha9:a9):a1 /\ a2 /\ a3 /\ a4 /\ a5 /\ a6 /\ a7 /\ a8 /\ a9:=⟨ha1,ha2,ha3,ha4,ha5,ha6,ha7,ha8,ha9⟩
theorem n10 {a1 a2 a3 a4 a5 a6 a7 a8 a9 a10 C:Prop} (h:a1 /\ a2 /\ a3 /\ a4 /\ a5 /\ a6 /\ a7 /\ a8 /\ a9 /\ a10) (k:a1 -> a2 -> a3 -> a4 -> a5 -> a6 -> a7 -> a8 -> a9 -> a10 -> C):C:=k (h.1) (h.2.1) (h.2.2.1) (h.2.2.2.1) (h.2.2.2.2.1) (h.2.2.2.2.2.1) (h.2.2.2.2.2.2.1) (h.2.2.2.2.2.2.2.1) (h.2.2.2.2.2.2.2.2.1) (h.2.2.2.2.2.2.2.2.2)
theorem m10 {a1 a2 a3 a4 a5 a6 a7 a8 a9 a10:Prop} (ha1:a1) (ha2:a2) (ha3:a3) (ha4:a4) (ha5:a5) (ha6:a6) (ha7:a7) (ha8:a8) (ha9:a9) (ha10:a10):a1 /\ a2 /\ a3 /\ a4 /\ a5 /\ a6 /\ a7 /\ a8 /\ a9 /\ a10:=⟨ha1,ha2,ha3,ha4,ha5,ha6,ha7,ha8,ha9,ha10⟩
theorem ns {α:Type _} {a:α} {C:Prop} (h:none=some a):C:=nomatch h
theorem sn {α:Type _} {a:α} {C:Prop} (h:some a=none):C:=nomatch h
theorem so {α:Type _} {a b:α} {C:Prop} (h:some a=some b) (k:a=b -> C):C:=k (Option.some.inj h)
theorem pp {α:Type _} {β:Type _} {a c:α} {b d:β} {C:Prop} (h:(a,b)=(c,d)) (k:a=c -> b=d -> C):C:=k (congrArg Prod.fst h) (congrArg Prod.snd h)
theorem sof {α:Type _} {a b:α} {C:Prop} (h:some a=some b) (k:b=a -> C):C:=k (Option.some.inj h).symm
theorem ppf {α:Type _} {β:Type _} {a c:α} {b d:β} {C:Prop} (h:(a,b)=(c,d)) (k:c=a -> d=b -> C):C:=k (congrArg Prod.fst h).symm (congrArg Prod.snd h).symm
@[elab_as_elim] theorem rwt {α:Sort _} {a b:α} {P:α -> Prop} (h:a=b) (k:P b):P a:=h▸k
@[elab_as_elim] theorem rwf {α:Sort _} {a b:α} {P:α -> Prop} (h:a=b) (k:P a):P b:=h▸k
section Q
open Lean
def zqS (st : List Syntax) (t : String) (a : List Syntax) : List Syntax :=
 match t.splitOn "/" with
 | [k, n] => let n := n.toNat!;   .node .none (if k == "" then `null else (if k.startsWith "^" then "Lean.Parser.Term." ++ (k.drop 1).toString else if k.startsWith "%" then (k.drop 1).toString else "Lean.Parser.Tactic." ++ k).toName) (st.take n).reverse.toArray :: st.drop n
 | _ => (if t.startsWith "#" then mkIdent (t.drop 1).toString.toName else if t.startsWith "'" then .atom .none (t.drop 1).toString else match t.toNat? with
   | some k => a.getD k .missing
   | none => .atom (.synthetic ⟨1⟩ ⟨1⟩) t) :: st
def zqp (s : String) (a : List Syntax) : Syntax := ((s.splitOn " ").foldl (fun st t => zqS st t a) []).head!
def zqN (l : List Syntax) : Syntax := .node .none `null l.toArray
def zqL (f : Nat → List Syntax) : Nat → List Syntax
 | 0 => []
 | k + 1 => f k ++ zqL f k
def zqM (f : Syntax → Nat → List Syntax) (i : Nat) : List Syntax → List Syntax
 | [] => []
 | a :: l => f a i ++ zqM f (i + 1) l
def zqF (l : List Syntax) : Syntax := zqp "first 0 first/2" [zqN (l.map fun t => zqN [.missing, t])]
def zqI (s : String) (k : Nat) : Syntax := mkIdent ("Mine." ++ s ++ toString k).toName
def zqQ (b : Bool) (p : Syntax) (i : Nat) : List Syntax :=
 let q := if p[1].getNumArgs = 0 && p[0][0].getNumArgs = 1 then p[0][0][0] else zqp "( 0 ) rcasesPat.paren/3" [p]
 let h := zqp ("#q" ++ toString i) []
 if q.getKind == `Lean.Parser.Tactic.rcasesPat.tuple || q[0].getId == `rfl then
   [zqp (if b then "intro 0 /1 intro/2" else if q[0].getId == `rfl then "subst 0 /1 subst/2" else "'obtain 1 /1 rcasesPatMed/1 /1 /0 := 0 /1 /2 obtain/4") [h, q]]
 else if b then [zqp "rintro 0 rintroPat.one/1 /1 /0 rintro/3" [q]] else []
def zqA (e : Syntax) (ps : List Syntax) (l : Syntax) (m : Nat) : List Syntax :=
 [zqN (zqp "refine 0 1 ? _ ^syntheticHole/2 /2 ^app/2 refine/2" [l, e] :: zqp (if e.isIdent then "first | clear 0 /1 clear/2 /2 | skip skip/1 /2 /2 first/2" else "skip skip/1") [e] :: zqM (zqQ true) 0 (ps.take m)
   ++ (if m = ps.length then [] else [zqp "intro #qq /1 intro/2" [], zqp "'obtain ⟨ 0 ⟩ rcasesPat.tuple/3 /1 rcasesPatMed/1 /1 /0 := #qq /1 /2 obtain/4" [zqN (zqM (fun a i => if i = 0 then [a] else [.atom .none ",", a]) 0 (ps.drop m))]])
   ++ zqM (zqQ false) 0 (ps.take m))]
def zqU (x : Syntax) : Syntax := x.setArg 0 (.atom (.synthetic ⟨1⟩ ⟨1⟩) x[0].getAtomVal)
def zqC (b : Bool) (x : Syntax) : MacroM Syntax := if b && x[0].getPos? != some ⟨1⟩ then return x else Macro.throwUnsupported
def zqO (x e p : Syntax) : MacroM Syntax := do
 let ps := p[1].getSepArgs.toList
 let n := ps.length
 let _ ← zqC (p.getKind == `Lean.Parser.Tactic.rcasesPat.tuple && 2 ≤ n) x
 return zqF (zqL (fun k => if 1 ≤ k && k ≤ 9 then zqA e ps (zqI "n" (k + 1)) (if k + 1 = n then n else k) else []) n
   ++ zqL (fun k => if k ≤ 6 then zqA e ps (zqI "x" (k + 1)) (if k + 2 = n then n else k + 1) else []) (n - 1) ++ [zqU x])
def zqW (s : String) (g : Syntax) (k : Nat) : Syntax := (zqL (fun _ => [.missing]) k).foldl (fun g _ => zqp s [g]) g
def zqR (xs : List Syntax) (j : Nat) : List Syntax :=
 let ap (f : String) (k : Nat) (l : List Syntax) : Syntax := zqp "0 1 ^app/2" [zqI f k, zqN l]
 (fun f => zqL (f true) (xs.length - j) ++ zqL (f false) (xs.length - j)) fun b m =>
   let c := xs.length - j - m
   if m ≤ 7 && c ≤ 10 && (j = 0 || 0 < m) then
     let t := if c = 1 then xs.getLast! else ap "m" c (xs.drop (j + m))
     let t := if m = 0 then t else ap "y" m ((xs.drop j).take m ++ [t])
     let t := if j = 0 then t else ap "m" (j + 1) (xs.take j ++ [t])
     let an := "#And _ ^hole/1 0 /2 ^app/2"
     [zqp (if b then "fail_if_success fail_if_success show 0 show/2 failIfSuccess/2 failIfSuccess/2 refine 1 refine/2 /2" else "show 0 show/2 refine 1 refine/2 /2") [zqW an (zqW "#Exists fun #q /1 /0 => 0 ^basicFun/4 ^fun/2 /1 ^app/2" (zqW an (zqp "_ ^hole/1" []) (c - 1)) m) j, t]]
   else []
def zqX (l : List Syntax) (f : String → Syntax) (s : String) : List Syntax := zqM (fun t _ => [f t.getAtomVal]) 0 ((s.splitOn " ").map (.atom .none)) ++ l
def zqY (n : String) (k : Nat) : Syntax := zqp "refine 0 1 ^app/2 refine/2" [mkIdent ("PySem.wpAny_" ++ n).toName, zqN (zqL (fun _ => [zqp "by assumption assumption/1 ^byTactic/2" []]) k ++ [zqp "? _ ^syntheticHole/2" []])]
def zqZ (t n : String) : Syntax := zqp ("with_reducible apply 0 apply/2 withReducible/2 focus " ++ t ++ " done done/1 /2 focus/2 /2") [mkIdent ("PySem.wpAny_" ++ n).toName]
def zqG (l : List Syntax) : Syntax := zqp "with_reducible 0 withReducible/2" [zqF l]
end Q
local macro_rules (kind := Lean.Parser.Tactic.obtain) | x => zqO x x[3][1][0] (if x[1][0][0].getNumArgs = 1 && x[2].getNumArgs = 0 && x[3][1].getNumArgs = 1 then x[1][0][0][0] else x)
local macro_rules (kind := Lean.Parser.Tactic.rcases) | x => do
 let p := x[2][1][0][0]
 let h := x[1][0][1]
 let _ ← zqC (x[1].getNumArgs = 1 && p.getNumArgs = 1 && h.isIdent) x
 return zqp "'obtain 0 /1 rcasesPatMed/1 /1 /0 := 1 /1 /2 obtain/4" [p[0], h]
local macro_rules (kind := Lean.Parser.Tactic.cases) | x => do
 let h := x[1][0][1]
 let _ ← zqC (x[1].getNumArgs = 1 && x[1][0][0].getNumArgs = 0 && h.isIdent && x[2].getNumArgs = 0 && x[3].getNumArgs = 0) x
 return zqp "first | subst 0 /1 subst/2 /2 | exact #Mine.ns 0 /1 ^app/2 exact/2 /2 | exact #Mine.sn 0 /1 ^app/2 exact/2 /2 | refine #Mine.sof 0 ? _ ^syntheticHole/2 /2 ^app/2 refine/2 clear 0 /1 clear/2 intro #q1 /1 intro/2 'injection #q1 /0 injection/3 /4 /2 | refine #Mine.ppf 0 ? _ ^syntheticHole/2 /2 ^app/2 refine/2 clear 0 /1 clear/2 intro #q1 #q2 /2 intro/2 'injection #q1 /0 injection/3 'injection #q2 /0 injection/3 /5 /2 | 1 /2 /6 first/2" [h, zqU x]
local macro_rules (kind := Lean.Parser.Tactic.injection) | x => do
 let _ ← zqC (x[1].isIdent && x[2].getNumArgs = 0) x
 return zqp "first | subst 0 /1 subst/2 /2 | exact #Mine.ns 0 /1 ^app/2 exact/2 /2 | exact #Mine.sn 0 /1 ^app/2 exact/2 /2 | refine #Mine.so 0 ? _ ^syntheticHole/2 /2 ^app/2 refine/2 clear 0 /1 clear/2 intro #q1 /1 intro/2 'injection #q1 /0 injection/3 /4 /2 | refine #Mine.pp 0 ? _ ^syntheticHole/2 /2 ^app/2 refine/2 clear 0 /1 clear/2 intro #q1 #q2 /2 intro/2 'injection #q1 /0 injection/3 'injection #q2 /0 injection/3 /5 /2 | have /0 ^letConfig/1 #q1 ^letId/1 /0 /0 := #Eq.symm 0 /1 ^app/2 ^letIdDecl/5 ^letDecl/1 tacticHave__/3 clear 0 /1 clear/2 cases /0 #q1 elimTarget/2 /1 /0 /0 cases/4 /3 /2 /6 first/2" [x[1]]
local macro_rules (kind := Lean.Parser.Tactic.omega) | x => do
 let _ ← zqC (x[1][0].getNumArgs = 0) x
 return zqp "first | lia /0 optConfig/1 lia/2 /2 | 0 /2 /2 first/2" [zqU x]
local macro_rules (kind := tacticWp_step) | x => do
 let _ ← zqC true x
 return zqF (zqG (zqX (zqY "of_eq" 1 :: zqY "typeOf" 1 :: zqX (zqX [] (zqY · 0) "call runValue run") (zqY · 2) "specialOf_val specialOf isInstance_val isInstance") (zqY · 0) "pure bind holding standAt point rule letGo mkInt' fresh' alloc' attempt throw")
   :: zqX (zqZ "assumption assumption/1" "handled_none" :: zqX (zqX [zqp "fail_if_success with_reducible show #PySem.wpAny _ ^hole/1 _ ^hole/1 #PySem.mkStr _ ^hole/1 /1 ^app/2 _ ^hole/1 _ ^hole/1 _ ^hole/1 /6 ^app/2 show/2 withReducible/2 failIfSuccess/2 wp_delta %tacticWp_delta/1 /2" []] (zqZ "simp /0 optConfig/1 /0 /0 [ * simpStar/1 /1 ] /3 /0 simp/6" ·) "ite_false ite_true") (zqZ "rfl tacticRfl/1" ·) "ite_false ite_true") (zqZ "heap_get %tacticHeap_get/1" ·) "load' update' loadPart' updatePart'")
local macro_rules (kind := Lean.Parser.Tactic.refine) | x => do
 let l := x[1][1].getSepArgs.toList
 let _ ← zqC (x[1].getKind == `Lean.Parser.Term.anonymousCtor && 2 ≤ l.length) x
 return zqF (zqR l 0 ++ zqR l 1 ++ zqR l 2 ++ [zqU x])
local macro_rules (kind := Lean.Parser.Tactic.exact) | x => do
 let _ ← zqC (x[1].getKind == `Lean.Parser.Term.anonymousCtor && 2 ≤ x[1][1].getSepArgs.size) x
 return zqp "first | 'refine 1 refine/2 /2 | 0 /2 /2 first/2" [zqU x, x[1]]
local macro_rules (kind := Lean.Parser.Command.declaration) | x => do
 let o : Bool := match x[1][0] with
   | .atom (.original ..) _ => true
   | .atom (.synthetic p ..) _ => p == ⟨1⟩
   | _ => false
 if o == false then Lean.Macro.throwUnsupported
 let x := x.rewriteBottomUp fun s => match s with
   | .atom _ s => .atom .none s
   | .ident _ r n p => .ident .none r n p
   | .node _ k a => .node .none k a
   | s => s
 return if x[1].getKind == `Lean.Parser.Command.definition || x[1].getKind == `Lean.Parser.Command.abbrev then x.setArg 0 (x[0].setArg 4 (zqp "'noncomputable %Lean.Parser.Command.noncomputable/1 /1" [])) else x
local macro_rules (kind := Lean.Parser.Tactic.rwSeq) | x => do
 let _ ← zqC (x[1][0].getNumArgs = 0 && x[3].getNumArgs = 0) x
 return zqN (zqM (fun r _ => [zqp "first | refine 0 1 ? _ ^syntheticHole/2 /2 ^app/2 refine/2 /2 | refine 0 1 .. ^ellipsis/1 /1 ^app/2 ? _ ^syntheticHole/2 /2 ^app/2 refine/2 /2 | rewrite /0 optConfig/1 [ 2 /1 ] rwRuleSeq/3 /0 rewriteSeq/4 /2 /3 first/2" [zqp (if r[0].getNumArgs = 0 then "#Mine.rwt" else "#Mine.rwf") [], r[1], r]]) 0 x[2][1].getSepArgs.toList
   ++ [zqp "first | with_reducible rfl tacticRfl/1 /1 tacticSeq1Indented/1 tacticSeq/1 withReducible/2 /2 | skip skip/1 /2 /2 first/2" []])
def zza:=@wpAny_bind
def zzb:=@wpAny_pure
def zzc:=@Heap.get?_push_of_some
def zzd:=@Heap.get?_push_size
def zze:=@List.mem_cons_of_mem
def zzf:=@List.mem_cons_self
def zzg:=@wpAny_holding
def zzh:=@Nat.eq_of_beq_eq_true
def zzi:=@Nat.le_of_ble_eq_true
def zzj:=@List.not_mem_nil
section
open PySem PyProof.Rows
def kB:Nat:=2097152
def Amj (f:Nat):Nat->List Nat:=@Nat.rec (λ Z=>Nat->List Nat) (λ Z=>[]) (λ Z ih n=>@Nat.rec (λ Z=>List Nat) [] (λ m Z=>Nat.mod m kB::ih (Nat.div m kB)) n) f
def Ba (n:Nat):List Nat:=Amj n n
def enc (l:List Nat):Nat:=@List.rec Nat (λ Z=>Nat) 0 (λ c Z ih=>Nat.succ (Nat.add c (Nat.mul kB ih))) l
theorem Akj:∀ (f g n:Nat),n≤f->n≤g->Amj f n=Amj g n
 | 0,g,n,h,h'=>by
  have:n=0:=by omega
  subst this
  cases g<;>rfl
 | f+1,0,n,h,h'=>by
  have:n=0:=by omega
  subst this
  rfl
 | f+1,g+1,n,h,h'=>by
  cases n with
  | zero=>rfl
  | succ m=>
   show Nat.mod m kB::Amj f (Nat.div m kB)=Nat.mod m kB::Amj g (Nat.div m kB)
   have:m / kB≤m:=Nat.div_le_self m kB
   rw [Akj f g (Nat.div m kB) (by show m / kB≤f;omega) (by show m / kB≤g;omega)]
theorem Eg (m:Nat):Ba (m+1)=(m % kB)::Ba (m / kB):=by
 show Nat.mod m kB::Amj m (Nat.div m kB)=_
 have:m / kB≤m:=Nat.div_le_self m kB
 unfold Ba
 rw [Akj m (m / kB) (Nat.div m kB) this (Nat.le_refl _)]
 rfl
theorem Adg:∀ (a b:Nat),Ba a=Ba b->a=b:=by
 intro a
 induction a using Nat.strongRecOn with
 | ind a ih=>
  intro b h
  cases a with
  | zero=>cases b with
   | zero=>rfl
   | succ m=>rw [Eg] at h;cases h
  | succ m=>cases b with
   | zero=>rw [Eg] at h;cases h
   | succ n=>
    rw [Eg,Eg] at h
    injection h with h1 h2
    have:=ih (m / kB) (Nat.lt_succ_of_le (Nat.div_le_self m kB)) (n / kB) h2
    have e1:=Nat.div_add_mod m kB
    have e2:=Nat.div_add_mod n kB
    rw [this] at e1
    rw [h1] at e1
    omega
theorem Yc:∀ (a c:Nat),c∈Ba a->c<kB:=by
 intro a
 induction a using Nat.strongRecOn with
 | ind a ih=>
  intro c h
  cases a with
  | zero=>cases h
  | succ m=>
   rw [Eg] at h
   rcases List.mem_cons.mp h with h|h
   ·rw [h];exact Nat.mod_lt _ (by decide)
   ·exact ih _ (Nat.lt_succ_of_le (Nat.div_le_self m kB)) c h
theorem Akk:∀ (l:List Nat),(∀ c∈l,c<kB)->Ba (enc l)=l
 | [],_=>rfl
 | c::r,h=>by
  show Ba ((c+kB*enc r)+1)=_
  have hc:=h c zzf
  have h0:0<kB:=by decide
  rw [Eg,Nat.add_mul_mod_self_left,Nat.mod_eq_of_lt hc,Nat.add_mul_div_left _ _ h0,Nat.div_eq_of_lt hc,Nat.zero_add,Akk r λ c q=>h c (List.mem_cons_of_mem _ q)]
theorem Wr {c:Nat} (h:c<kB):Ba (Nat.succ c)=[c]:=by
 show Ba (c+1)=_
 rw [Eg,Nat.mod_eq_of_lt h,Nat.div_eq_of_lt h];rfl
def Aqh (n:Nat):Nat:=@Nat.rec (λ Z=>Nat) 0 (λ m Z=>Nat.succ (Nat.mod m kB)) n
theorem Aol (n:Nat):Ba (Aqh n)=(Ba n).take 1:=by
 cases n with
 | zero=>rfl
 | succ m=>
  show Ba (Nat.succ (m % kB))=_
  rw [Wr (Nat.mod_lt _ (by decide)),Eg];rfl
def Ag0 (a b:Nat):Nat:=enc (Ba a++Ba b)
theorem Adf (a b:Nat):Ba (Ag0 a b)=Ba a++Ba b:=Akk _ λ c h=>(List.mem_append.mp h).elim (Yc a c) (Yc b c)
theorem Fo (a b:Nat):Nat.beq a b=((PySem.Str.mk (Ba a).toArray)==(PySem.Str.mk (Ba b).toArray)):=by
 rw [Bool.eq_iff_iff,beq_iff_eq]
 constructor
 ·intro h;rw [Nat.eq_of_beq_eq_true h]
 ·intro h
  have:=PySem.Str.mk.inj h
  have e:a=b:=Adg a b (by simpa using this)
  subst e
  exact Nat.beq_refl a
inductive PV where
 | none
 | bool (b:Bool)
 | int (i:Int)
 | str (s:Nat)
 | tup (l:List PV)
 | lst (l:List PV)
 | inst (C:Nat) (d:Nat)
 | obj (i:Nat)
 | rng (n:Nat)
 | sym (n:Nat)
inductive PO where
 | list (l:List PV)
 | dict (kvs:List (PV×PV)) (f:Bool)
 | att (kvs:List (Nat×PV))
 | hid
 | deck (n:Nat)
inductive TR where
 | e
 | n (o:PO) (l r:TR)
inductive PF where
 | z
 | a (p:PF)
 | b (p:PF)
def pAt (f:Nat):Nat->PF:=@Nat.rec (λ Z=>Nat->PF) (λ Z=>.z) (λ Z ih i=>@Nat.rec (λ Z=>PF) .z (λ j Z=>@Bool.rec (λ Z=>PF) (.b (ih (Nat.div j 2))) (.a (ih (Nat.div j 2))) (Nat.beq (Nat.mod j 2) 0)) i) f
def pF (i:Nat):PF:=pAt (Nat.succ i) i
def paF (p:PF):Nat:=@PF.rec (λ Z=>Nat) 0 (λ Z ih=>2*ih+1) (λ Z ih=>2*ih+2) p
theorem Ayy:∀ (f i:Nat),i<f->paF (pAt f i)=i:=λ f=>by
 induction f with
 | zero=>exact λ i h=>absurd h (Nat.not_lt_zero _)
 | succ f ih=>
  intro i hi
  cases i with
  | zero=>rfl
  | succ m=>
   have hm:Nat.div m 2<f:=Nat.lt_of_le_of_lt (Nat.div_le_self m 2) (Nat.lt_of_succ_lt_succ hi)
   have e:=ih _ hm
   show paF (@Bool.rec (λ Z=>PF) (.b (pAt f (Nat.div m 2))) (.a (pAt f (Nat.div m 2))) (Nat.beq (Nat.mod m 2) 0))=m+1
   have d:2*(m / 2)+m % 2=m:=Nat.div_add_mod m 2
   cases hb:Nat.beq (Nat.mod m 2) 0 with
   | true=>
    have hb:m % 2=0:=zzh hb
    show 2*paF (pAt f (Nat.div m 2))+1=m+1
    rw [e];show 2*(m / 2)+1=m+1;omega
   | false=>
    have hb:m % 2≠0:=Nat.ne_of_beq_eq_false hb
    show 2*paF (pAt f (Nat.div m 2))+2=m+1
    rw [e];show 2*(m / 2)+2=m+1;omega
def gR (t:TR):PF->PO:=@TR.rec (λ Z=>PF->PO) (λ Z=>.hid) (λ o Z Z gl gr p=>@PF.rec (λ Z=>PO) o (λ q Z=>gl q) (λ q Z=>gr q) p) t
def sR (o:PO) (p:PF):TR->(TR->Bool)->Bool:=@PF.rec (λ Z=>TR->(TR->Bool)->Bool)
 (λ t k=>@TR.rec (λ Z=>Bool) (k (.n o .e .e)) (λ Z l r Z Z=>k (.n o l r)) t)
 (λ Z ih t k=>@TR.rec (λ Z=>Bool) (ih .e λ l=>k (.n .hid l .e)) (λ x l r Z Z=>ih l λ l=>k (.n x l r)) t)
 (λ Z ih t k=>@TR.rec (λ Z=>Bool) (ih .e λ r=>k (.n .hid .e r)) (λ x l r Z Z=>ih r λ r=>k (.n x l r)) t) p
theorem Azd {o:PO}:∀ (p:PF) (t:TR),∃ t',(gR t' p=o/\∀ q,q≠p->gR t' q=gR t q)/\∀ k,sR o p t k=k t':=λ p=>by
 induction p with
 | z=>
  intro t
  cases t with
  | e=>exact ⟨.n o .e .e,⟨rfl,λ q hq=>by cases q with|z=>exact absurd rfl hq|a q=>rfl|b q=>rfl⟩,λ k=>rfl⟩
  | n x l r=>exact ⟨.n o l r,⟨rfl,λ q hq=>by cases q with|z=>exact absurd rfl hq|a q=>rfl|b q=>rfl⟩,λ k=>rfl⟩
 | a p ih=>
  intro t
  cases t with
  | e=>
   obtain ⟨t',h,e⟩:=ih .e
   exact ⟨.n .hid t' .e,⟨h.1,λ q hq=>by cases q with|z=>rfl|a q=>exact h.2 q λ e=>hq (congrArg PF.a e)|b q=>rfl⟩,λ k=>e _⟩
  | n x l r=>
   obtain ⟨t',h,e⟩:=ih l
   exact ⟨.n x t' r,⟨h.1,λ q hq=>by cases q with|z=>rfl|a q=>exact h.2 q λ e=>hq (congrArg PF.a e)|b q=>rfl⟩,λ k=>e _⟩
 | b p ih=>
  intro t
  cases t with
  | e=>
   obtain ⟨t',h,e⟩:=ih .e
   exact ⟨.n .hid .e t',⟨h.1,λ q hq=>by cases q with|z=>rfl|a q=>rfl|b q=>exact h.2 q λ e=>hq (congrArg PF.b e)⟩,λ k=>e _⟩
  | n x l r=>
   obtain ⟨t',h,e⟩:=ih r
   exact ⟨.n x l t',⟨h.1,λ q hq=>by cases q with|z=>rfl|a q=>rfl|b q=>exact h.2 q λ e=>hq (congrArg PF.b e)⟩,λ k=>e _⟩
inductive D8 where
 | a|b|c|d|f|g|i|j
def Aao (n:Nat):D8:=@Nat.rec (λ Z=>D8) .a (λ n Z=>@Nat.rec (λ Z=>D8) .b (λ n Z=>@Nat.rec (λ Z=>D8) .c (λ n Z=>@Nat.rec (λ Z=>D8) .d (λ n Z=>@Nat.rec (λ Z=>D8) .f (λ n Z=>@Nat.rec (λ Z=>D8) .g (λ n Z=>@Nat.rec (λ Z=>D8) .i (λ n Z=>.j) n) n) n) n) n) n) n
def v8 (w:D8):Nat:=@D8.rec (λ Z=>Nat) 0 1 2 3 4 5 6 7 w
theorem Ajv:∀ n,n<8->v8 (Aao n)=n
 | 0,_=>rfl
 | 1,_=>rfl
 | 2,_=>rfl
 | 3,_=>rfl
 | 4,_=>rfl
 | 5,_=>rfl
 | 6,_=>rfl
 | 7,_=>rfl
 | n+8,h=>absurd h (Nat.not_lt.mpr (Nat.le_add_left ..))
structure Q8 (α:Type) where
 (a b c d f g i j:α)
structure TS where
 q:Q8 (Q8 (Q8 PO))
 r:TR
structure PS where
 n:Nat
 t:TS
def z8 {α:Type} (x:α):Q8 α:=⟨x,x,x,x,x,x,x,x⟩
def TS.e:TS:=⟨z8 (z8 (z8 .hid)),.e⟩
inductive PA where
 | near (x y z:D8)
 | far (p:PF)
def Yy (i:Nat):PA:=@Bool.rec (λ Z=>PA) (.far (pF (Nat.sub i 512))) (.near (Aao (Nat.mod i 8)) (Aao (Nat.mod (Nat.div i 8) 8)) (Aao (Nat.div i 64))) (Nat.blt i 512)
def paV (p:PA):Nat:=@PA.rec (λ Z=>Nat) (λ x y z=>v8 x+8*v8 y+64*v8 z) (λ p=>512+paF p) p
theorem Ap9 (i:Nat):paV (Yy i)=i:=by
 cases h:Nat.blt i 512 with
 | true=>
  have hi:i<512:=zzi h
  have e:Yy i=.near (Aao (i % 8)) (Aao (i / 8 % 8)) (Aao (i / 64)):=by unfold Yy;rw [h];rfl
  rw [e]
  show v8 (Aao (i % 8))+8*v8 (Aao (i / 8 % 8))+64*v8 (Aao (i / 64))=i
  rw [Ajv _ (by omega),Ajv _ (by omega),Ajv _ (by omega)]
  omega
 | false=>
  have hi:¬ i<512:=λ q=>Bool.false_ne_true (h.symm.trans (Nat.ble_eq_true_of_le q))
  have e:Yy i=.far (pF (i - 512)):=by unfold Yy;rw [h];rfl
  rw [e]
  show 512+paF (pF (i - 512))=i
  rw [show paF (pF (i - 512))=i - 512 from Ayy _ _ (Nat.lt_succ_self _)]
  omega
theorem Aqc {i j:Nat} (h:Yy i=Yy j):i=j:=(Ap9 i).symm.trans ((congrArg paV h).trans (Ap9 j))
def h8 {α:Type} (w:D8):Q8 α->α:=@D8.rec (λ Z=>Q8 α->α) (λ t=>t.a) (λ t=>t.b) (λ t=>t.c) (λ t=>t.d) (λ t=>t.f) (λ t=>t.g) (λ t=>t.i) (λ t=>t.j) w
def gP (t:TS) (p:PA):PO:=@PA.rec (λ Z=>TS->PO) (λ x y z t=>h8 x (h8 y (h8 z t.q))) (λ p t=>gR t.r p) p t
def gT (t:TS) (i:Nat):PO:=gP t (Yy i)
abbrev M8 (α:Type):=(α->(α->Bool)->Bool)->(Q8 α->Bool)->Bool
def s8 {α:Type} (w:D8):Q8 α->M8 α:=@D8.rec (λ Z=>Q8 α->M8 α) (λ t=>@Q8.rec α (λ Z=>M8 α) (λ a b c d f g i j m k=>m a λ u=>k ⟨u,b,c,d,f,g,i,j⟩) t) (λ t=>@Q8.rec α (λ Z=>M8 α) (λ a b c d f g i j m k=>m b λ u=>k ⟨a,u,c,d,f,g,i,j⟩) t) (λ t=>@Q8.rec α (λ Z=>M8 α) (λ a b c d f g i j m k=>m c λ u=>k ⟨a,b,u,d,f,g,i,j⟩) t) (λ t=>@Q8.rec α (λ Z=>M8 α) (λ a b c d f g i j m k=>m d λ u=>k ⟨a,b,c,u,f,g,i,j⟩) t) (λ t=>@Q8.rec α (λ Z=>M8 α) (λ a b c d f g i j m k=>m f λ u=>k ⟨a,b,c,d,u,g,i,j⟩) t) (λ t=>@Q8.rec α (λ Z=>M8 α) (λ a b c d f g i j m k=>m g λ u=>k ⟨a,b,c,d,f,u,i,j⟩) t) (λ t=>@Q8.rec α (λ Z=>M8 α) (λ a b c d f g i j m k=>m i λ u=>k ⟨a,b,c,d,f,g,u,j⟩) t) (λ t=>@Q8.rec α (λ Z=>M8 α) (λ a b c d f g i j m k=>m j λ u=>k ⟨a,b,c,d,f,g,i,u⟩) t) w
def sP (p:PA):PO->TS->(TS->Bool)->Bool:=@PA.rec (λ Z=>PO->TS->(TS->Bool)->Bool) (λ x y z o t k=>s8 z t.q (λ q=>s8 y q λ q=>s8 x q λ Z k=>k o) λ q=>k ⟨q,t.r⟩) (λ p o t k=>sR o p t.r λ r=>k ⟨t.q,r⟩) p
def sT (o:PO) (_:Nat) (i:Nat) (t:TS) (k:TS->Bool):Bool:=sP (Yy i) o t k
def Put (t t':TS) (i:Nat) (o:PO):Prop:=(gT t' i=o)/\∀ j,j≠i->gT t' j=gT t j
theorem Ajb {α:Type} (w:D8) (t:Q8 α) {m:α->(α->Bool)->Bool} {u:α} (h:∀ k,m (h8 w t) k=k u):∃ t',(∀ k,s8 w t m k=k t')/\h8 w t'=u/\∀ w',w'≠w->h8 w' t'=h8 w' t:=by
 cases t
 cases w<;>exact ⟨_,λ k=>h _,rfl,λ w' hw=>by cases w'<;>first|exact absurd rfl hw|rfl⟩
theorem Azc {o:PO} (p:PA) (t:TS):∃ t',(gP t' p=o/\∀ q,q≠p->gP t' q=gP t q)/\∀ k,sP p o t k=k t':=by
 cases p with
 | near x y z=>
  obtain ⟨a,ra,ga,oa⟩:=Ajb x (h8 y (h8 z t.q)) (m:=λ Z k=>k o) (u:=o) λ k=>rfl
  obtain ⟨b,rb,gb,ob⟩:=Ajb y (h8 z t.q) (m:=λ q=>s8 x q λ Z k=>k o) ra
  obtain ⟨c,rc,gc,oc⟩:=Ajb z t.q (m:=λ q=>s8 y q λ q=>s8 x q λ Z k=>k o) rb
  refine ⟨⟨c,t.r⟩,⟨(congrArg (λ q=>h8 x (h8 y q)) gc).trans ((congrArg (h8 x) gb).trans ga),λ p hp=>?_⟩,λ k=>rc _⟩
  cases p with
  | near x' y' z'=>
   show h8 x' (h8 y' (h8 z' c))=h8 x' (h8 y' (h8 z' t.q))
   by_cases hz:z'=z
   ·subst hz
    rw [gc]
    by_cases hy:y'=y
    ·subst hy
     rw [gb]
     exact oa x' λ e=>hp (by rw [e])
    ·rw [ob y' hy]
   ·rw [oc z' hz]
  | far p=>rfl
 | far p=>
  refine (Azd p t.r).elim λ r q=>⟨⟨t.q,r⟩,⟨q.1.1,λ p' hp=>?_⟩,λ k=>q.2 _⟩
  cases p' with
  | near x y z=>rfl
  | far p'=>exact q.1.2 p' λ e=>hp (congrArg PA.far e)
theorem Ajc {o:PO} (f i:Nat) (t:TS):∃ t',Put t t' i o/\∀ k,sT o f i t k=k t':=
 (Azc (Yy i) t).elim λ t' h=>⟨t',⟨h.1.1,λ j hj=>h.1.2 _ λ e=>hj (Aqc e)⟩,h.2⟩
theorem sT_ {C:Prop} {o:PO} (f i:Nat) (t:TS) (k:TS->Bool) (h:sT o f i t k=true) (H:∀ t',Put t t' i o->k t'=true->C):C:=
 (Ajc f i t).elim λ t' q=>H t' q.1 ((q.2 k).symm.trans h)
abbrev CM (α:Type):=PS->(α->PS->Bool)->Bool
def ret {α:Type} (a:α):CM α:=λ σ k=>k a σ
def Am (o:PO):CM Nat:=λ σ k=>@PS.rec (λ Z=>Bool) (λ n t=>sT o (Nat.succ n) n t λ t'=>k n ⟨Nat.succ n,t'⟩) σ
def Cb (i:Nat) (o:PO) (σ:PS) (k:PS->Bool):Bool:=@PS.rec (λ Z=>Bool) (λ n t=>sT o (Nat.succ i) i t λ t'=>k ⟨n,t'⟩) σ
theorem Dy {C:Prop} {o:PO} {σ:PS} {k:Nat->PS->Bool} (h:Am o σ k=true) (H:∀ t',Put σ.t t' σ.n o->k σ.n ⟨σ.n+1,t'⟩=true->C):C:=by
 cases σ with
 | mk n t=>exact sT_ (Nat.succ n) n t (λ t'=>k n ⟨Nat.succ n,t'⟩) h H
theorem M0 {C:Prop} {i:Nat} {o:PO} {σ:PS} {k:PS->Bool} (h:Cb i o σ k=true) (H:∀ t',Put σ.t t' i o->k ⟨σ.n,t'⟩=true->C):C:=by
 cases σ with
 | mk n t=>exact sT_ (Nat.succ i) i t (λ t'=>k ⟨n,t'⟩) h H
theorem ff {C:Prop} (h:false=true):C:=nomatch h
def F1 {α:Type}:α->Bool:=λ Z=>false
def F2 {α β:Type}:α->β->Bool:=λ Z Z=>false
def oC {α:Type} (k:α->Bool) (o:Option α):Bool:=@Option.rec α (λ Z=>Bool) false k o
theorem oC_ {α:Type} {C:Prop}:∀ {o:Option α} {k:α->Bool},oC k o=true->(∀ a,o=some a->k a=true->C)->C
 | some a,_,h,H=>H a rfl h
 | none,_,h,_=>nomatch h
def bC (f t b:Bool):Bool:=@Bool.rec (λ Z=>Bool) f t b
theorem Bs {C:Prop}:∀ {b t:Bool},bC false t b=true->(b=true->t=true->C)->C
 | true,_,h,H=>H rfl h
 | false,_,h,_=>nomatch h
def lC {α:Type} (n:Bool) (c:α->List α->Bool) (l:List α):Bool:=@List.rec α (λ Z=>Bool) n (λ a r Z=>c a r) l
def on1 (l:List PV) (k:PV->Bool):Bool:=lC false (λ a r=>lC (k a) F2 r) l
def on2 (l:List PV) (k:PV->PV->Bool):Bool:=lC false (λ a r=>on1 r (k a)) l
def on3 (l:List PV) (k:PV->PV->PV->Bool):Bool:=lC false (λ a r=>on2 r (k a)) l
def vC (none:Bool) (bool:Bool->Bool) (int:Int->Bool) (str:Nat->Bool) (tup:List PV->Bool) (lst:List PV->Bool) (inst:Nat->Nat->Bool) (obj:Nat->Bool) (rng:Nat->Bool) (p:PV):Bool:=
 @PV.rec (λ Z=>Bool) (λ Z=>Unit) none bool int str (λ l Z=>tup l) (λ l Z=>lst l) inst obj rng F1 () (λ Z Z Z Z=>()) p
def Eu (k:Int->Bool) (p:PV):Bool:=vC false F1 k F1 F1 F1 F2 F1 F1 p
def Nm (k:Bool->Bool) (p:PV):Bool:=vC false k F1 F1 F1 F1 F2 F1 F1 p
def El (k:Nat->Bool) (p:PV):Bool:=vC false F1 F1 k F1 F1 F2 F1 F1 p
def Lo (k:List PV->Bool) (p:PV):Bool:=vC false F1 F1 F1 k F1 F2 F1 F1 p
def Qq (k:Nat->Bool) (p:PV):Bool:=vC false F1 F1 F1 F1 F1 F2 k F1 p
def Ahf (k:Nat->Nat->Bool) (p:PV):Bool:=vC false F1 F1 F1 F1 F1 k F1 F1 p
def Qm (i:Nat) (σ:PS) (k:List PV->Bool):Bool:=@PO.rec (λ Z=>Bool) k F2 F1 false F1 (gT σ.t i)
def V0 (i:Nat) (σ:PS) (k:List (PV×PV)->Bool->Bool):Bool:=@PO.rec (λ Z=>Bool) F1 k F1 false F1 (gT σ.t i)
def onA (i:Nat) (σ:PS) (k:List (Nat×PV)->Bool):Bool:=@PO.rec (λ Z=>Bool) F1 F2 k false F1 (gT σ.t i)
theorem A5t {C:Prop} {i:Nat} {σ:PS} {k:List PV->Bool} (h:Qm i σ k=true) (H:∀ l,gT σ.t i=.list l->k l=true->C):C:=by
 unfold Qm at h
 cases e:gT σ.t i with
 | list l=>rw [e] at h;exact H l e h
 | _=>rw [e] at h;exact ff h
theorem A5s {C:Prop} {i:Nat} {σ:PS} {k:List (PV×PV)->Bool->Bool} (h:V0 i σ k=true) (H:∀ d f,gT σ.t i=.dict d f->k d f=true->C):C:=by
 unfold V0 at h
 cases e:gT σ.t i with
 | dict d f=>rw [e] at h;exact H d f e h
 | _=>rw [e] at h;exact ff h
theorem A5r {C:Prop} {i:Nat} {σ:PS} {k:List (Nat×PV)->Bool} (h:onA i σ k=true) (H:∀ l,gT σ.t i=.att l->k l=true->C):C:=by
 unfold onA at h
 cases e:gT σ.t i with
 | att l=>rw [e] at h;exact H l e h
 | _=>rw [e] at h;exact ff h
theorem Oc {C:Prop}:∀ {l:List PV} {k:PV->Bool},on1 l k=true->(∀ p,l=[p]->k p=true->C)->C
 | [p],_,h,H=>H p rfl h
 | [],_,h,_=>nomatch h
 | _::_::_,_,h,_=>nomatch h
theorem Yr {C:Prop}:∀ {l:List PV} {k:PV->PV->Bool},on2 l k=true->(∀ p q,l=[p,q]->k p q=true->C)->C
 | p::l,k,h,H=>Oc (l:=l) (k:=k p) h λ q e h=>H p q (congrArg _ e) h
 | [],_,h,_=>nomatch h
theorem Ayo {C:Prop}:∀ {l:List PV} {k:PV->PV->PV->Bool},on3 l k=true->(∀ p q r,l=[p,q,r]->k p q r=true->C)->C
 | p::l,k,h,H=>Yr (l:=l) (k:=k p) h λ q r e h=>H p q r (congrArg _ e) h
 | [],_,h,_=>nomatch h
end
section
structure Aj where
 l:List Addr
 η:List Addr
def Aj.has (J:Aj) (a:Addr):Prop:=a∈J.l\/a∈J.η
def Aj.add (J:Aj) (a:Addr):Aj:=⟨J.l++[a],J.η⟩
theorem Aj.nl {J:Aj} {a:Addr} (h:¬ J.has a):a∉J.l:=λ q=>h (.inl q)
theorem Aj.at {J:Aj} {i:Nat} {a:Addr} (e:J.l[i]?=some a):J.has a:=.inl (List.mem_iff_getElem?.mpr ⟨i,e⟩)
def D3:List Nat:=[229,390,520,558,585,623,678,727,755,783,818,853]
def NoD (h:Heap) (a:Addr):Prop:=∃ o,h.get? a=some o/\o.dict=none
mutual
def Ae (J:Aj) (h:Heap):PV->Value->Prop
 | .none,v=>v=.none
 | .bool b,v=>v=.bool b
 | .int i,v=>∃ t,v=.int i t
 | .str s,v=>∃ t,v=.str ⟨(Ba s).toArray⟩ t
 | .tup l,v=>∃ a vs,v=.ref a/\(¬ J.has a/\NoD h a)/\IsTup h a vs.toArray/\RepL J h l vs
 | .lst l,v=>∃ a vs,v=.ref a/\¬ J.has a/\h.IsList a vs.toArray/\RepL J h l vs
 | .inst C d,v=>C∈D3/\∃ x dx,v=.ref x/\J.l[d]?=some dx/\h.get? x=some (instObj C dx)
 | .obj i,v=>∃ a,v=.ref a/\J.l[i]?=some a
 | .rng n,v=>∃ a t u x,v=.ref a/\IsRange h a 0 n 1 t u x
 | .sym n,v=>∃ (i:Nat) (t:Tok),i<n/\v=.int (Int.ofNat i) t
def RepL (J:Aj) (h:Heap):List PV->List Value->Prop
 | [],vs=>vs=[]
 | p::l,vs=>∃ v r,vs=v::r/\Ae J h p v/\RepL J h l r
end
section
variable {J:Aj} {h:Heap} {v:Value} {P:Value->Prop}
@[elab_as_elim] theorem Eh {i:Int} (r:Ae J h (.int i) v) (H:∀ t,P (.int i t)):P v:=Exists.elim (r:∃ t,v=.int i t) λ t e=>e▸H t
@[elab_as_elim] theorem Ei {s:Nat} (r:Ae J h (.str s) v) (H:∀ t,P (.str ⟨(Ba s).toArray⟩ t)):P v:=Exists.elim (r:∃ t,v=.str ⟨(Ba s).toArray⟩ t) λ t e=>e▸H t
@[elab_as_elim] theorem Cw {l:List PV} (r:Ae J h (.tup l) v) (H:∀ a vs,¬ J.has a->NoD h a->IsTup h a vs.toArray->RepL J h l vs->P (.ref a)):P v:=by
 obtain ⟨a,vs,rfl,n,t,q⟩:=(r:∃ a vs,v=.ref a/\(¬ J.has a/\NoD h a)/\IsTup h a vs.toArray/\RepL J h l vs)
 exact H a vs n.1 n.2 t q
@[elab_as_elim] theorem Mu {l:List PV} (r:Ae J h (.lst l) v) (H:∀ a vs,¬ J.has a->h.IsList a vs.toArray->RepL J h l vs->P (.ref a)):P v:=by
 obtain ⟨a,vs,rfl,n,t,q⟩:=(r:∃ a vs,v=.ref a/\¬ J.has a/\h.IsList a vs.toArray/\RepL J h l vs)
 exact H a vs n t q
@[elab_as_elim] theorem Y2 {C d:Nat} (r:Ae J h (.inst C d) v) (H:∀ x dx,C∈D3->J.l[d]?=some dx->h.get? x=some (instObj C dx)->P (.ref x)):P v:=by
 obtain ⟨c,x,dx,rfl,n,t⟩:=(r:C∈D3/\∃ x dx,v=.ref x/\J.l[d]?=some dx/\h.get? x=some (instObj C dx))
 exact H x dx c n t
@[elab_as_elim] theorem F7 {i:Nat} (r:Ae J h (.obj i) v) (H:∀ a,J.l[i]?=some a->P (.ref a)):P v:=Exists.elim (r:∃ a,v=.ref a/\J.l[i]?=some a) λ a q=>q.1▸H a q.2
@[elab_as_elim] theorem Atp {n:Nat} (r:Ae J h (.rng n) v) (H:∀ a t u x,IsRange h a 0 n 1 t u x->P (.ref a)):P v:=by
 obtain ⟨a,t,u,x,rfl,q⟩:=(r:∃ a t u x,v=.ref a/\IsRange h a 0 n 1 t u x)
 exact H a t u x q
@[elab_as_elim] theorem C8 {vs:List Value} {P:List Value->Prop} (r:RepL J h [] vs) (H:P []):P vs:=(r:vs=[])▸H
@[elab_as_elim] theorem A8 {p:PV} {l:List PV} {vs:List Value} {P:List Value->Prop} (r:RepL J h (p::l) vs) (H:∀ v us,Ae J h p v->RepL J h l us->P (v::us)):P vs:=by
 obtain ⟨v,us,rfl,a,b⟩:=(r:∃ v r,vs=v::r/\Ae J h p v/\RepL J h l r)
 exact H v us a b
theorem Zc:Ae J h .none .none:=rfl
theorem Zb (b:Bool):Ae J h (.bool b) (.bool b):=rfl
theorem C2 (i:Int) (t:Tok):Ae J h (.int i) (.int i t):=(⟨t,rfl⟩:∃ u,Value.int i t=Value.int i u)
theorem Ep {s:Nat} {x:Str} (t:Tok) (e:x=⟨(Ba s).toArray⟩):Ae J h (.str s) (.str x t):=(⟨t,e▸rfl⟩:∃ u,Value.str x t=.str ⟨(Ba s).toArray⟩ u)
theorem Aw2 (s:Nat) (t:Tok):Ae J h (.str s) (.str ⟨(Ba s).toArray⟩ t):=Ep t rfl
theorem Ek {l:List PV} {a:Addr} {vs:List Value} (n:¬ J.has a) (d:NoD h a) (t:IsTup h a vs.toArray) (r:RepL J h l vs):Ae J h (.tup l) (.ref a):=
 (⟨a,vs,rfl,⟨n,d⟩,t,r⟩:∃ a' vs,Value.ref a=.ref a'/\(¬ J.has a'/\NoD h a')/\IsTup h a' vs.toArray/\RepL J h l vs)
theorem Hv {l:List PV} {a:Addr} {vs:List Value} (n:¬ J.has a) (t:h.IsList a vs.toArray) (r:RepL J h l vs):Ae J h (.lst l) (.ref a):=
 (⟨a,vs,rfl,n,t,r⟩:∃ a' vs,Value.ref a=.ref a'/\¬ J.has a'/\h.IsList a' vs.toArray/\RepL J h l vs)
theorem Ajp {C d:Nat} {x dx:Addr} (c:C∈D3) (e:J.l[d]?=some dx) (t:h.get? x=some (instObj C dx)):Ae J h (.inst C d) (.ref x):=
 (⟨c,x,dx,rfl,e,t⟩:C∈D3/\∃ y dx,Value.ref x=.ref y/\J.l[d]?=some dx/\h.get? y=some (instObj C dx))
theorem Vi {i:Nat} {a:Addr} (e:J.l[i]?=some a):Ae J h (.obj i) (.ref a):=(⟨a,rfl,e⟩:∃ b,Value.ref a=.ref b/\J.l[i]?=some b)
theorem Aw1 {n:Nat} {a:Addr} {t u x:Tok} (e:IsRange h a 0 n 1 t u x):Ae J h (.rng n) (.ref a):=(⟨a,t,u,x,rfl,e⟩:∃ b t u x,Value.ref a=.ref b/\IsRange h b 0 n 1 t u x)
theorem Cx:RepL J h [] []:=rfl
theorem Bd {p:PV} {l:List PV} {v:Value} {vs:List Value} (a:Ae J h p v) (b:RepL J h l vs):RepL J h (p::l) (v::vs):=(⟨v,vs,rfl,a,b⟩:∃ u r,v::vs=u::r/\Ae J h p u/\RepL J h l r)
end
structure Grow0 (own:Addr->Prop) (J J':Aj) (h h':Heap):Prop where
 pre:J.l <+: J'.l
 keep:∀ b o,h.get? b=some o->b∉J.l->¬ own b->h'.get? b=some o
 new:∀ a∈J'.l,a∈J.l\/h.get? a=none
 eta:J'.η=J.η
structure Ch (own:Addr->Prop) (J J':Aj) (h h':Heap):Prop extends Grow0 own J J' h h' where
 live:∀ b o,own b->h.get? b=some o->∃ o',h'.get? b=some o'
def Ao:Addr->Prop:=λ Z=>False
def En (c:Value):Prop:=c≠.type "list"/\c≠.type "tuple"/\c≠.type "range"/\∀ C,c≠.ref C
def A0 (own:Addr->Prop) (J:Aj) (h:Heap):Prop:=∀ b,own b->∃ o,h.get? b=some o/\((∃ es n,o.data=.dict es n)\/(∃ v,o.data=.cell v)\/En o.cls\/(o.cls=.type "list"/\b∈J.η))
theorem Ab (J:Aj) (h:Heap):A0 Ao J h:=λ Z e=>e.elim
theorem A0.mono {own own':Addr->Prop} {J:Aj} {h:Heap} (x:A0 own' J h) (hw:∀ b,own b->own' b):A0 own J h:=λ b e=>x b (hw b e)
theorem A0.no {own:Addr->Prop} {J:Aj} {h:Heap} (x:A0 own J h) {a:Addr} {o:Obj} (e:h.get? a=some o) (d:(∀ es n,o.data≠.dict es n)/\(∀ v,o.data≠.cell v)) (c:¬ En o.cls) (q:o.cls=.type "list"->¬ J.has a):¬ own a:=λ y=>by
 obtain ⟨o',e',r⟩:=x a y
 cases e.symm.trans e'
 exact r.elim (λ r=>r.elim λ es r=>r.elim λ n r=>d.1 es n r) λ r=>r.elim (λ r=>r.elim λ v r=>d.2 v r) λ r=>r.elim c λ r=>q r.1 (.inr r.2)
theorem A0.seq {own:Addr->Prop} {J:Aj} {h:Heap} (x:A0 own J h) {a:Addr} {o:Obj} {vs:Array Value} {n:Nat} (e:h.get? a=some o) (d:o.data=.seq vs n) (c:o.cls=.type "list"\/o.cls=.type "tuple") (q:¬ J.has a):¬ own a:=
 x.no e ⟨λ Z Z q=>(nomatch d.symm.trans q),λ Z q=>(nomatch d.symm.trans q)⟩ (λ q=>c.elim q.1 q.2.1) λ Z=>q
theorem Ch.refl (own:Addr->Prop) (J:Aj) (h:Heap):Ch own J J h h:=⟨⟨List.prefix_refl _,λ Z Z e Z Z=>e,λ Z e=>.inl e,rfl⟩,λ Z o Z e=>⟨o,e⟩⟩
theorem Ch.keepAll {own:Addr->Prop} {J:Aj} {h h':Heap} (hk:∀ b o,h.get? b=some o->h'.get? b=some o):Ch own J J h h':=
 ⟨⟨List.prefix_refl _,λ b o e Z Z=>hk b o e,λ Z q=>.inl q,rfl⟩,λ b o Z e=>⟨o,hk b o e⟩⟩
theorem Ch.trans {own:Addr->Prop} {J J' J'':Aj} {h h' h'':Heap} (g:Ch own J J' h h') (g':Ch own J' J'' h' h''):Ch own J J'' h h'' where
 pre:=g.pre.trans g'.pre
 keep:=λ b o e n m=>g'.keep b o (g.keep b o e n m) (λ q=>(g.new b q).elim n λ q=>nomatch e.symm.trans q) m
 new:=λ a q=>(g'.new a q).elim (g.new a) λ q=>(Classical.em (a∈J.l)).imp id λ ha=>by
  cases e:h.get? a with
  | none=>rfl
  | some o=>exact (Classical.em (own a)).elim (λ m=>(g.live a o m e).elim λ Z e'=>nomatch q.symm.trans e') λ m=>nomatch q.symm.trans (g.keep a o e ha m)
 eta:=g'.eta.trans g.eta
 live:=λ b o m e=>(g.live b o m e).elim λ o' e'=>g'.live b o' m e'
theorem Ch.weaken {own own':Addr->Prop} {J J':Aj} {h h':Heap} (g:Ch own J J' h h') (hw:∀ b,own b->own' b) (hi:∀ b∈J.l,∃ o,h'.get? b=some o):Ch own' J J' h h':=
 ⟨⟨g.pre,λ b o e n m=>g.keep b o e n λ q=>m (hw b q),g.new,g.eta⟩,λ b o m e=>(Classical.em (own b)).elim (λ q=>g.live b o q e) λ q=>(Classical.em (b∈J.l)).elim (hi b) λ r=>⟨o,g.keep b o e r q⟩⟩
theorem Ch.notNew {own:Addr->Prop} {J J':Aj} {h h':Heap} (g:Grow0 own J J' h h') {a:Addr} {o:Obj} (e:h.get? a=some o) (hn:¬ J.has a):¬ J'.has a:=λ q=>q.elim (λ q=>(g.new a q).elim (λ q=>hn (.inl q)) λ q=>nomatch e.symm.trans q) λ q=>hn (.inr (g.eta▸q))
theorem Ch.nnl {own:Addr->Prop} {J J':Aj} {h h':Heap} (g:Grow0 own J J' h h') {a:Addr} {o:Obj} (e:h.get? a=some o) (hn:a∉J.l):a∉J'.l:=λ q=>(g.new a q).elim hn λ q=>nomatch e.symm.trans q
theorem Df {J J':Aj} (p:J.l <+: J'.l) {i:Nat} {a:Addr} (e:J.l[i]?=some a):J'.l[i]?=some a:=
 p.elim λ Z q=>q▸(List.getElem?_append_left (List.getElem?_eq_some_iff.mp e).1).trans e
def Do (J:Aj) (h:Heap):Prop:=∀ a,J.has a->∃ o,h.get? a=some o/\(o.cls=.type "list"\/o.cls=.type "dict"\/o.cls=.type "tuple")
theorem Do.no {J:Aj} {h:Heap} (x:Do J h) {a:Addr} {o:Obj} (t:h.get? a=some o) (c:o.cls≠.type "list"/\o.cls≠.type "dict"/\o.cls≠.type "tuple"):¬ J.has a:=λ q=>by
 obtain ⟨o',e,r⟩:=x a q
 cases e.symm.trans t
 exact r.elim c.1 λ r=>r.elim c.2.1 c.2.2
theorem A17:Value.type "range"≠.type "list"/\Value.type "range"≠.type "dict"/\Value.type "range"≠.type "tuple":=by decide
section
variable {own:Addr->Prop} {J J':Aj} {h h':Heap} {a:Addr} {vs:Array Value}
structure Mv (own:Addr->Prop) (J J':Aj) (h h':Heap):Prop where
 pre:J.l <+: J'.l
 keep:∀ b o,h.get? b=some o->¬ J.has b->¬ own b->h'.get? b=some o
 nn:∀ a o,h.get? a=some o->¬ J.has a->¬ J'.has a
theorem Grow0.mv (g:Grow0 own J J' h h'):Mv own J J' h h':=⟨g.pre,λ b o e n m=>g.keep b o e (Aj.nl n) m,λ a o e n=>Ch.notNew g e n⟩
theorem Dh (g:Mv own J J' h h') (ho:A0 own J h) (hn:¬ J.has a) (x:IsTup h a vs):IsTup h' a vs:=by
 obtain ⟨o,e,c,n,d⟩:=x
 exact ⟨o,g.keep a o e hn (ho.seq e d (.inr c) hn),c,n,d⟩
theorem U4 (g:Mv own J J' h h') (ho:A0 own J h) (hn:¬ J.has a) (x:h.IsList a vs):h'.IsList a vs:=by
 obtain ⟨o,e,c,n,d⟩:=x
 exact ⟨o,g.keep a o e hn (ho.seq e d (.inl c) hn),c,n,d⟩
theorem Apv (g:Mv own J J' h h') (ho:A0 own J h) (hn:¬ J.has a) (x:IsTup h a vs) (y:NoD h a):NoD h' a:=by
 obtain ⟨o,e,c,n,d⟩:=x
 obtain ⟨o2,e2,d2⟩:=y
 exact ⟨o,g.keep a o e hn (ho.seq e d (.inr c) hn),Option.some.inj (e2.symm.trans e)▸d2⟩
theorem Ab9 (g:Mv own J J' h h') (ho:A0 own J h) (hi:Do J h):(∀ p v,Ae J h p v->Ae J' h' p v):=λ p=>
 @PV.rec (λ p=>∀ v,Ae J h p v->Ae J' h' p v) (λ l=>∀ vs,RepL J h l vs->RepL J' h' l vs) (λ Z r=>r) (λ Z Z r=>r) (λ Z Z r=>r) (λ Z Z r=>r)
  (λ l ih v r=>Cw r λ a vs n d t q=>Ek (t.elim λ Z q=>g.nn _ _ q.1 n) (Apv g ho n t d) (Dh g ho n t) (ih vs q))
  (λ l ih v r=>Mu r λ a vs n t q=>Hv (t.elim λ Z q=>g.nn _ _ q.1 n) (U4 g ho n t) (ih vs q))
  (λ C d v r=>Y2 r λ x dx c e t=>Ajp c (Df g.pre e) (g.keep _ _ t (hi.no t ⟨λ q=>(nomatch q),λ q=>(nomatch q),λ q=>(nomatch q)⟩) (ho.no t ⟨λ Z Z q=>(nomatch q),λ Z q=>(nomatch q)⟩ (λ q=>q.2.2.2 _ rfl) λ q=>nomatch q)))
  (λ i v r=>F7 r λ a e=>Vi (Df g.pre e))
  (λ n v r=>Atp r λ a t u x e=>Aw1 (g.keep _ _ e (hi.no e A17) (ho.no e ⟨λ Z Z q=>(nomatch q),λ Z q=>(nomatch q)⟩ (λ q=>q.2.2.1 rfl) λ q=>A17.1.elim q)))
  (λ n v r=>r) (λ vs r=>r) (λ p l ip il vs r=>A8 r λ v us a b=>Bd (ip v a) (il us b)) p
theorem G0 (g:Mv own J J' h h') (ho:A0 own J h) (hi:Do J h):∀ (l:List PV) (vs:List Value),RepL J h l vs->RepL J' h' l vs
 | [],_,r=>r
 | _::l,_,r=>A8 r λ v us a b=>Bd (Ab9 g ho hi _ v a) (G0 g ho hi l us b)
theorem Im (g:Grow0 own J J' h h') (ho:A0 own J h) (hi:Do J h):(∀ p v,Ae J h p v->Ae J' h' p v):=Ab9 g.mv ho hi
theorem Sx (g:Grow0 own J J' h h') (ho:A0 own J h) (hi:Do J h):∀ (l:List PV) (vs:List Value),RepL J h l vs->RepL J' h' l vs:=G0 g.mv ho hi
end
end
section
def PV.kd (p:PV):Nat:=@PV.rec (λ Z=>Nat) (λ Z=>Unit) 0 (λ Z=>0) (λ Z=>2) (λ Z=>1) (λ Z Z=>3) (λ Z Z=>0) (λ Z Z=>0) (λ Z=>0) (λ Z=>0) (λ Z=>0) () (λ Z Z Z Z=>()) p
def hkB (p:PV):Nat->Bool:=@PV.rec (λ Z=>Nat->Bool) (λ Z=>Nat->Bool) F1 F2 (λ Z Z=>true) (λ Z Z=>true) (λ Z ih n=>@Nat.rec (λ Z=>Bool) false (λ m Z=>ih m) n) (λ Z Z=>F1) (λ Z Z=>F1) F2 F2 F2 (λ Z=>true) (λ Z Z hp hl n=>bC false (hl n) (hp n)) p
def hkL (l:List PV):Nat->Bool:=@PV.rec_1 (λ Z=>Nat->Bool) (λ Z=>Nat->Bool) F1 F2 (λ Z Z=>true) (λ Z Z=>true) (λ Z ih n=>@Nat.rec (λ Z=>Bool) false (λ m Z=>ih m) n) (λ Z Z=>F1) (λ Z Z=>F1) F2 F2 F2 (λ Z=>true) (λ Z Z hp hl n=>bC false (hl n) (hp n)) l
def PV.hk (p:PV):Bool:=hkB p 6
def Ah (w:World) (p:PV):Int:=@PV.rec (λ Z=>Int) (λ Z=>List Int) 0 (λ Z=>0) hashInt (λ s=>hashStr w ⟨(Ba s).toArray⟩) (λ Z ih=>reduceHash (Builtin.Tuple.tupleHashOf ih)) (λ Z Z=>0) (λ Z Z=>0) (λ Z=>0) (λ Z=>0) (λ Z=>0) [] (λ Z Z hp hl=>hp::hl) p
def Ax4 (w:World) (l:List PV):List Int:=@PV.rec_1 (λ Z=>Int) (λ Z=>List Int) 0 (λ Z=>0) hashInt (λ s=>hashStr w ⟨(Ba s).toArray⟩) (λ Z ih=>reduceHash (Builtin.Tuple.tupleHashOf ih)) (λ Z Z=>0) (λ Z Z=>0) (λ Z=>0) (λ Z=>0) (λ Z=>0) [] (λ Z Z hp hl=>hp::hl) l
def Bw (kvs:List (PV×PV)):Prop:=(∃ k,k≠0/\∀ x∈kvs,x.1.kd=k/\x.1.hk=true)/\(kvs.map (·.1)).Nodup
inductive Bg (w:World) (J:Aj) (h:Heap):List (PV×PV)->List DictEntry->Prop
 | nil:Bg w J h [] []
 | cons {p q:PV} {e:DictEntry} {l:List (PV×PV)} {es:List DictEntry}:Ae J h p e.key->Ae J h q e.val->e.hash=Ah w p->Bg w J h l es->Bg w J h ((p,q)::l) (e::es)
def Ah5:List Nat:=[0x7400033000194000e00006f,0x1d0000e600066000318001b8000ec0006f,0x1d0000ea00069000340001a8000cc00078,0xe8000690003a8001c4000cc00065,0x3a80019c000cc0006d,0x75000348001a0000d400073,0x660003b8001c0000c600062,0x3a0001d4000e00006d,0xca00066000340001cc000cc0006e,0x360001bc000c400063,0xe80006f000380001a8000de00076,0x74000330001a0000ca00066,0xea00074000330001cc000e000067,0x6f0003c0001c0000de0006c,0x1a0000de0006a0003a8001a8000c400078,0x38800188000cc00069,0x330001b8000c40006f,0x7400032800198000cc0006f,0x1d0000de00070000350001d4000e200070,0xe600066000360001b4000c400078,0xe60006600032000188000da00071,0x1e8000e6000700003a8001d0000d400069,0xe800065000378001d8000e000073,0x740003a8001d0000cc00073,0x74000330001b0000c400078,111,0x66000368001c0000d200078,0x3a8001d0000e00006e,0x74000330001b4000ec00073]
def Avd (kvs:List (Nat×PV)):Prop:=(∀ z∈kvs,z.1∈Ah5)/\(kvs.map (·.1)).Nodup
def atP (z:Nat×PV):PV×PV:=(.str z.1,z.2)
def F4 (cs:List Int) (n:Nat):List (PV×PV):=[(.str 0x74000368001b4000cc00064,.lst (cs.map PV.int)),(.str 245366882,.int (Int.ofNat n))]
def Ef (w:World) (J:Aj) (h:Heap) (po:PO) (o:Obj):Prop:=@PO.rec (λ Z=>Prop)
 (λ l=>o.cls=.type "list"/\o.dict=none/\o.slots=#[]/\∃ vs n,o.data=.seq vs.toArray n/\RepL J h l vs)
 (λ kvs f=>o.ExactDict/\Bw kvs/\∃ es n,o.data=.dict es.toArray n/\(f=true->n=kvs.length)/\Bg w J h kvs es)
 (λ kvs=>o.ExactDict/\Avd kvs/\∃ es n,o.data=.dict es.toArray n/\Bg w J h (kvs.map atP) es)
 (∃ a b,o={cls:=.type "tuple",data:=.seq #[a,b]})
 (λ m=>o.ExactDict/\∃ es n,o.data=.dict es.toArray n/\∃ cs:List Int,cs.length≤1000/\Bg w J h (F4 cs m) es) po
section
variable {w:World} {own:Addr->Prop} {J J':Aj} {h h':Heap}
theorem Bg.mv (g:Mv own J J' h h') (ho:A0 own J h) (hi:Do J h) {l:List (PV×PV)} {es:List DictEntry} (x:Bg w J h l es):Bg w J' h' l es:=by
 induction x with
 | nil=>exact .nil
 | cons a b c _ ih=>exact .cons (Ab9 g ho hi _ _ a) (Ab9 g ho hi _ _ b) c ih
theorem Ef.mv (g:Mv own J J' h h') (ho:A0 own J h) (hi:Do J h) {po:PO} {o:Obj} (r:Ef w J h po o):Ef w J' h' po o:=by
 cases po with
 | list l=>
  obtain ⟨a,b,c,vs,n,d,r⟩:=r
  exact ⟨a,b,c,vs,n,d,G0 g ho hi l vs r⟩
 | dict kvs f=>
  obtain ⟨a,b,es,n,d,e,r⟩:=r
  exact ⟨a,b,es,n,d,e,r.mv g ho hi⟩
 | att kvs=>
  obtain ⟨a,b,es,n,d,r⟩:=r
  exact ⟨a,b,es,n,d,r.mv g ho hi⟩
 | hid=>exact r
 | deck m=>
  obtain ⟨a,es,n,d,cs,z,r⟩:=r
  exact ⟨a,es,n,d,cs,z,r.mv g ho hi⟩
theorem Bg.grow0 (g:Grow0 own J J' h h') (ho:A0 own J h) (hi:Do J h) {l:List (PV×PV)} {es:List DictEntry} (x:Bg w J h l es):Bg w J' h' l es:=x.mv g.mv ho hi
theorem Ef.grow0 (g:Grow0 own J J' h h') (ho:A0 own J h) (hi:Do J h) {po:PO} {o:Obj} (r:Ef w J h po o):Ef w J' h' po o:=r.mv g.mv ho hi
end
structure Aq where
 prog:Program
 w:World
 K:Frag
 h₀:Heap
 mg:Str->Option Value
 mb:Str->Option Value
 p:Program
 loose:List Str
 X:K.In h₀
 T:TopRead p loose mg mb h₀
structure St (B:Aq) (J:Aj) (σ:PS) (h:Heap):Prop where
 base:∀ b o,B.h₀.get? b=some o->h.get? b=some o
 fresh:∀ a,J.has a->B.h₀.get? a=none
 low:∀ a,J.has a->(a==sysModules)=false
 nodup:J.l.Nodup
 len:J.l.length=σ.n
 objs:∀ (i:Nat) (a:Addr),J.l[i]?=some a->∃ o,h.get? a=some o/\Ef B.w J h (gT σ.t i) o
 hid:∀ a∈J.η,a∉J.l/\∃ o,h.get? a=some o/\o.cls=.type "list"
section
variable {B:Aq} {own:Addr->Prop} {J J':Aj} {σ σ':PS} {h h':Heap}
theorem Ef.cls {w:World} {po:PO} {o:Obj} (r:Ef w J h po o):o.cls=.type "list"\/o.cls=.type "dict"\/o.cls=.type "tuple":=
 @PO.rec (λ po=>Ef w J h po o->_) (λ l r=>.inl r.1) (λ l f r=>.inr (.inl r.1.1)) (λ l r=>.inr (.inl r.1.1)) (λ r=>r.elim λ Z r=>r.elim λ Z r=>.inr (.inr (r▸rfl))) (λ m r=>.inr (.inl r.1.1)) po r
theorem St.idOk (x:St B J σ h):Do J h:=λ a q=>q.elim (λ q=>by
 obtain ⟨i,e⟩:=List.mem_iff_getElem?.mp q
 obtain ⟨o,ho,r⟩:=x.objs i a e
 exact ⟨o,ho,r.cls⟩) λ q=>(x.hid a q).2.elim λ o e=>⟨o,e.1,.inl e.2⟩
theorem St.X (x:St B J σ h):B.K.In h:=B.X.keeps x.base
theorem St.T (x:St B J σ h):TopRead B.p B.loose B.mg B.mb h:=B.T.keeps x.base
theorem St.alive (x:St B J σ h):∀ a,J.has a->∃ o,h.get? a=some o:=λ a q=>(x.idOk a q).elim λ o e=>⟨o,e.1⟩
theorem St.live (x:St B J σ h):∀ a∈J.l,∃ o,h.get? a=some o:=λ a q=>x.alive a (.inl q)
theorem St.big (x:St B J σ h):(h.objs.size==sysModules)=false:=by
 obtain ⟨o,es,ep,e,_⟩:=x.T.g
 exact beq_eq_false_iff_ne.mpr λ q=>absurd (q▸Heap.lt_size e:3<sysModules) (by decide)
theorem St.move0 (x:St B J σ h) (g:Grow0 own J J h h') (ho:A0 own J h) (hb:∀ b,own b->B.h₀.get? b=none) (hk:∀ a,J.has a->∀ o,h.get? a=some o->h'.get? a=some o):St B J σ h' where
 base:=λ b o e=>g.keep b o (x.base b o e) (λ q=>nomatch e.symm.trans (x.fresh b (.inl q))) λ q=>nomatch e.symm.trans (hb b q)
 fresh:=x.fresh
 low:=x.low
 nodup:=x.nodup
 len:=x.len
 objs:=λ i a e1=>(x.objs i a e1).elim λ o r=>⟨o,hk a (Aj.at e1) o r.1,r.2.grow0 g ho x.idOk⟩
 hid:=λ a q=>⟨(x.hid a q).1,(x.hid a q).2.elim λ o e=>⟨o,hk a (.inr q) o e.1,e.2⟩⟩
theorem St.keepAll (x:St B J σ h) (hk:∀ b o,h.get? b=some o->h'.get? b=some o):St B J σ h':=
 x.move0 (own:=Ao) (Ch.keepAll hk).toGrow0 (Ab J h) (λ Z q=>q.elim) λ a Z o e=>hk a o e
end
structure Sm (s s':Shared):Prop where
 gens:s'.gens=s.gens
 os:s'.os=s.os
theorem Sm.refl (s:Shared):Sm s s:=⟨rfl,rfl⟩
theorem Sm.trans {s s' s'':Shared} (x:Sm s s') (y:Sm s' s''):Sm s s'':=⟨y.gens.trans x.gens,y.os.trans x.os⟩
structure Nx (B:Aq) (own:Addr->Prop) (J:Aj) (s:Shared) (J':Aj) (σ':PS) (s':Shared):Prop where
 g:Ch own J J' s.heap s'.heap
 m:Sm s s'
 st:St B J' σ' s'.heap
 id:Do J s.heap
 ok:A0 own J s.heap
section
variable {B:Aq} {own own':Addr->Prop} {J J' J'':Aj} {σ σ' σ'':PS} {s s' s'':Shared}
theorem Nx.refl (st:St B J σ s.heap) (ok:A0 own J s.heap):Nx B own J s J σ s:=⟨.refl _ _ _,.refl s,st,st.idOk,ok⟩
theorem Nx.tok (st:St B J σ s.heap) (ok:A0 own J s.heap) (tk:Nat):Nx B own J s J σ {s with toks:=tk}:=⟨.refl _ _ _,⟨rfl,rfl⟩,st,st.idOk,ok⟩
theorem Nx.keep {h':Heap} (st:St B J σ s.heap) (ok:A0 own J s.heap) (tk:Nat) (hk:∀ b o,s.heap.get? b=some o->h'.get? b=some o):Nx B own J s J σ {s with heap:=h',toks:=tk}:=⟨.keepAll hk,⟨rfl,rfl⟩,st.keepAll hk,st.idOk,ok⟩
theorem Nx.trans (x:Nx B own J s J' σ' s') (y:Nx B own J' s' J'' σ'' s''):Nx B own J s J'' σ'' s'':=⟨x.g.trans y.g,x.m.trans y.m,y.st,x.id,x.ok⟩
theorem Nx.up (x:Nx B own J s J' σ' s') {p:PV} {v:Value} (r:Ae J s.heap p v):Ae J' s'.heap p v:=Im x.g.toGrow0 x.ok x.id p v r
theorem Nx.upL (x:Nx B own J s J' σ' s') {p:List PV} {v:List Value} (r:RepL J s.heap p v):RepL J' s'.heap p v:=Sx x.g.toGrow0 x.ok x.id p v r
theorem Nx.e (x:Nx B Ao J s J' σ' s') (ok:A0 own J s.heap):Nx B own J s J' σ' s':=⟨x.g.weaken (λ Z q=>q.elim) λ b q=>x.st.live b (x.g.pre.subset q),x.m,x.st,x.id,ok⟩
theorem Nx.w (x:Nx B own J s J' σ' s') (hw:∀ b,own b->own' b) (ok:A0 own' J s.heap):Nx B own' J s J' σ' s':=⟨x.g.weaken hw λ b q=>x.st.live b (x.g.pre.subset q),x.m,x.st,x.id,ok⟩
theorem Nx.toks (x:Nx B own J s J' σ' s') (tk:Nat):Nx B own J s J' σ' {s' with toks:=tk}:=⟨x.g,⟨x.m.gens,x.m.os⟩,x.st,x.id,x.ok⟩
end
theorem Aw (h:Heap) (o:Obj):∀ b o',h.get? b=some o'->(h.push o).get? b=some o':=λ b o' e=>zzc o e
theorem B5 {h:Heap} {J:Aj} (hi:Do J h):¬ J.has h.objs.size:=λ q=>(hi _ q).elim λ o e=>Nat.lt_irrefl _ (Heap.lt_size e.1)
theorem Ag5 {l:List Addr} (x:Addr):(l++[x])[l.length]?=some x:=by
 rw [List.getElem?_append_right (Nat.le_refl _),Nat.sub_self];rfl
theorem Y5 {l:List Addr} {x a:Addr} {i:Nat} (e:(l++[x])[i]?=some a):l[i]?=some a\/(i=l.length/\a=x):=by
 rcases Nat.lt_or_ge i l.length with q|q
 ·rw [List.getElem?_append_left q] at e
  exact .inl e
 ·rw [List.getElem?_append_right q] at e
  cases k:i - l.length with
  | zero=>rw [k] at e;exact .inr ⟨Nat.le_antisymm (Nat.le_of_sub_eq_zero k) q,(Option.some.inj e).symm⟩
  | succ k'=>rw [k] at e;cases e
theorem Hr {l:List Addr} {x:Addr} {C:Addr->Prop} (h:∀ a∈l,C a) (hx:C x):∀ a∈l++[x],C a:=λ a q=>(List.mem_append.mp q).elim (h a) λ q=>List.eq_of_mem_singleton q▸hx
theorem Ads {J:Aj} {x:Addr} {C:Addr->Prop} (h:∀ a,J.has a->C a) (hx:C x):∀ a,(J.add x).has a->C a:=λ a q=>q.elim (Hr (λ a q=>h a (.inl q)) hx a) λ q=>h a (.inr q)
section
variable {B:Aq} {own:Addr->Prop} {J:Aj} {σ:PS} {s:Shared}
theorem Yg {h h':Heap} {x:Addr} (hk:∀ b o,h.get? b=some o->h'.get? b=some o) (hn:h.get? x=none):Ch Ao J (J.add x) h h':=⟨⟨List.prefix_append _ _,λ b o' e Z Z=>hk b o' e,Hr (λ Z q=>.inl q) (.inr hn),rfl⟩,λ Z Z q=>q.elim⟩
theorem St.grown {h h':Heap} {x:Addr} {o:Obj} {po:PO} {t':TS} (st:St B J σ h) (hk:∀ b o,h.get? b=some o->h'.get? b=some o) (hn:h.get? x=none) (hx:(x==sysModules)=false) (ho:h'.get? x=some o)
  (hp:Put σ.t t' σ.n po) (hpo:Ef B.w (J.add x) h' po o):Ch Ao J (J.add x) h h'/\St B (J.add x) ⟨σ.n+1,t'⟩ h':=by
 have g:Ch Ao J (J.add x) h h':=Yg hk hn
 refine ⟨g,λ b o' e=>hk _ _ (st.base b o' e),Ads st.fresh ?_,Ads st.low hx,?_,by show (J.l++[x]).length=_;rw [List.length_append,st.len];rfl,λ i a e=>?_,λ a q=>?_⟩
 ·cases e:B.h₀.get? x with
  | none=>rfl
  | some o'=>exact nomatch hn.symm.trans (st.base _ _ e)
 ·exact List.nodup_append.mpr ⟨st.nodup,List.nodup_cons.mpr ⟨zzj,List.nodup_nil⟩,λ a q b q' e=>(st.live a q).elim λ o' e'=>ns (hn.symm.trans ((e.trans (List.eq_of_mem_singleton q'))▸e'))⟩
 ·rcases Y5 e with e|⟨rfl,rfl⟩
  ·obtain ⟨o',e',r⟩:=st.objs i a e
   exact ⟨o',hk _ _ e',(hp.2 i λ q=>Nat.lt_irrefl _ (st.len▸q▸(List.getElem?_eq_some_iff.mp e).1))▸r.grow0 g.toGrow0 (Ab _ _) st.idOk⟩
  ·exact ⟨o,ho,by rw [st.len,hp.1];exact hpo⟩
 ·obtain ⟨n,o',e',c⟩:=st.hid a q
  exact ⟨Hr (C:=λ b=>b=a->False) (λ b q e=>n (e▸q)) (λ e=>nomatch (e▸hn).symm.trans e') a |> λ f q=>f q rfl,o',hk _ _ e',c⟩
theorem Nx.push {po:PO} {o:Obj} {t':TS} (st:St B J σ s.heap) (hp:Put σ.t t' σ.n po) (hpo:Ef B.w J s.heap po o) (hf:o.isFreed=false) (tk:Nat):
  Nx B Ao J s (J.add s.heap.objs.size) ⟨σ.n+1,t'⟩ {s with heap:=s.heap.push o,toks:=tk}:=by
 have hk:=Aw s.heap o
 have hn:s.heap.get? s.heap.objs.size=none:=Heap.get?_none_of_le (Nat.le_refl _)
 obtain ⟨g,st'⟩:=st.grown hk hn st.big (zzd _ hf) hp (hpo.grow0 (Yg hk hn).toGrow0 (Ab _ _) st.idOk)
 exact ⟨g,⟨rfl,rfl⟩,st',st.idOk,Ab _ _⟩
theorem Ql (st:St B J σ s.heap) (x:Addr):(J.add x).l[σ.n]?=some x:=st.len▸Ag5 x
end
def Cc (A:Around) (d:Nat):Prop:=A.depth+d+10<recursionLimit/\A.units+12*d+100<cLine/\A.handled=none
theorem Cc.mono {A:Around} {d d':Nat} (r:Cc A d) (h:d'≤d):Cc A d':=
 ⟨Nat.lt_of_le_of_lt (Nat.add_le_add_right (Nat.add_le_add_left h _) _) r.1,Nat.lt_of_le_of_lt (Nat.add_le_add_right (Nat.add_le_add_left (Nat.mul_le_mul_left _ h) _) _) r.2.1,r.2.2⟩
abbrev Ax:=List (Option PV)
def Dg (ρ:Ax) (i:Nat):Option PV:=@List.rec _ (λ Z=>Nat->Option PV) (λ Z=>none) (λ x Z ih i=>@Nat.rec (λ Z=>Option PV) x (λ j Z=>ih j) i) ρ i
def P9 (J:Aj) (h:Heap) (x:Option PV) (v:Option Value):Prop:=∀ p,x=some p->∃ u,v=some u/\Ae J h p u
structure As (ks:List (Str×NameKind)) (xs:List Str) (env:Env) (ρ:Ax) (J:Aj) (h:Heap):Prop where
 kind:env.scope.kind=.function
 names:env.scope.names=ks
 globals:env.globals=mainGlobals
 builtins:env.builtins=builtinsNs
 code:env.code≠.none
 notId:¬ J.has env.locals
 cellsNot:∀ x c,(x,c)∈env.cells->¬ J.has c/\c≠env.locals
 at_:∃ m,h.Ns env.locals m/\∀ i x,xs[i]?=some x->(ks.lookup x=some .local->P9 J h (Dg ρ i) (m x))
 cell:∀ i x,xs[i]?=some x->(ks.lookup x=some .cell\/ks.lookup x=some .free)->∃ c v,env.cells.lookup x=some c/\h.IsCell c v/\P9 J h (Dg ρ i) v
 cellIs:∀ x c,(x,c)∈env.cells->∃ v,h.IsCell c v
 apart:env.cells.Pairwise λ x y=>x.2≠y.2
 nd:xs.Nodup
end
section
def Aal (B:Aq) (A:Around) (own:Addr->Prop) (J:Aj) (σ:PS) (s:Shared) {α β:Type} (t:Sem α) (m:CM β) (rel:Aj->Heap->β->α->Prop):Prop:=
 ∀ (k:β->PS->Bool) (Q:α->Shared->Prop) (E:Value->Shared->Prop),m σ k=true ->
  (∀ a s' J' b σ',k b σ'=true->Nx B own J s J' σ' s'->rel J' s'.heap b a->Q a s')->wpAny (model B.prog B.w) A t Q E s
abbrev Agx:Aj->Heap->PV->Value->Prop:=Ae
def A53 (n:Nat):Aj->Heap->List PV->List Value->Prop:=λ J h l vs=>RepL J h l vs/\l.length=n
abbrev EF:=Ax->CM PV
abbrev Wm:=Ax->CM Bool
abbrev LF:=Ax->CM (List PV)
def SE (B:Aq) (d:Nat) (ks:List (Str×NameKind)) (xs:List Str) (e:Expr) (f:EF):Prop:=
 ∀ (A:Around) (s:Shared) (env:Env) (ρ:Ax) (J:Aj) (σ:PS),Cc A d->As ks xs env ρ J s.heap->St B J σ s.heap->Aal B A Ao J σ s (eval e env) (f ρ) Agx
def Avi (B:Aq) (A:Around) (J:Aj) (σ:PS) (s:Shared) {α:Type} (t:Sem α) (c:Bool->α) (m:CM Bool):Prop:=
 ∀ (k:Bool->PS->Bool) (Q:α->Shared->Prop) (E:Value->Shared->Prop),m σ k=true->(∀ b s' J' σ',k b σ'=true->Nx B Ao J s J' σ' s'->Q (c b) s')->wpAny (model B.prog B.w) A t Q E s
def ST (B:Aq) (d:Nat) (ks:List (Str×NameKind)) (xs:List Str) (e:Expr) (f:Wm):Prop:=
 ∀ (A:Around) (s:Shared) (env:Env) (ρ:Ax) (J:Aj) (σ:PS),Cc A d->As ks xs env ρ J s.heap->St B J σ s.heap->Avi B A J σ s (isTrue e env (eval e env)) (λ b=>b) (f ρ)
def SEL (B:Aq) (d:Nat) (ks:List (Str×NameKind)) (xs:List Str) (es:List Expr) (f:LF):Prop:=
 ∀ (A:Around) (s:Shared) (env:Env) (ρ:Ax) (J:Aj) (σ:PS) (pos:Pos),Cc A d->As ks xs env ρ J s.heap->St B J σ s.heap ->
  (starEach es env).any (·.1)=false/\(starEach es env).length=es.length/\Aal B A Ao J σ s (spliced (backTo pos (starEach es env))) (f ρ) (A53 es.length)
section
variable {own:Addr->Prop} {J J':Aj} {h h':Heap}
theorem Ac0 {a:Addr} {m:Str->Option Value} (g:Mv own J J' h h') (hn:¬ J.has a) (ho:¬ own a) (x:h.Ns a m):h'.Ns a m:=by
 obtain ⟨o,es,ep,e,r⟩:=x
 exact ⟨o,es,ep,g.keep a o e hn ho,r⟩
theorem Dl {a:Addr} {v:Option Value} (g:Mv own J J' h h') (hn:¬ J.has a) (ho:¬ own a) (x:h.IsCell a v):h'.IsCell a v:=x.elim λ o e=>⟨o,g.keep a o e.1 hn ho,e.2⟩
theorem P9.grow (hr:∀ p v,Ae J h p v->Ae J' h' p v) {x:Option PV} {v:Option Value} (r:P9 J h x v):P9 J' h' x v:=λ p e=>(r p e).elim λ u q=>⟨u,q.1,hr p u q.2⟩
end
section
variable {B:Aq} {own:Addr->Prop} {J J':Aj} {σ σ':PS} {s s':Shared} {ks:List (Str×NameKind)} {xs:List Str} {env:Env} {ρ:Ax}
theorem As.up0 {h h':Heap} (x:As ks xs env ρ J h) (g:Mv own J J' h h') (ok:A0 own J h) (hi:Do J h) (hl:¬ own env.locals) (hc:∀ n c,(n,c)∈env.cells->¬ own c):As ks xs env ρ J' h' where
 kind:=x.kind
 names:=x.names
 globals:=x.globals
 builtins:=x.builtins
 code:=x.code
 notId:=x.at_.elim λ m q=>q.1.elim λ o q=>q.elim λ es q=>q.elim λ ep q=>g.nn _ _ q.1 x.notId
 cellsNot:=λ n c q=>⟨(x.cellIs n c q).elim λ v r=>r.elim λ o r=>g.nn _ _ r.1 (x.cellsNot n c q).1,(x.cellsNot n c q).2⟩
 at_:=x.at_.elim λ m q=>⟨m,Ac0 g x.notId hl q.1,λ i z e l=>(q.2 i z e l).grow (Ab9 g ok hi)⟩
 cell:=λ i z e l=>by
  obtain ⟨c,v,a,b,r⟩:=x.cell i z e l
  exact ⟨c,v,a,Dl g (x.cellsNot z c (mem_of_lookup a)).1 (hc z c (mem_of_lookup a)) b,r.grow (Ab9 g ok hi)⟩
 cellIs:=λ n c q=>(x.cellIs n c q).elim λ v b=>⟨v,Dl g (x.cellsNot n c q).1 (hc n c q) b⟩
 apart:=x.apart
 nd:=x.nd
theorem As.up (x:As ks xs env ρ J s.heap) (y:Nx B Ao J s J' σ' s'):As ks xs env ρ J' s'.heap:=x.up0 y.g.toGrow0.mv y.ok y.id (λ e=>e) λ Z Z Z e=>e
end
section
variable {B:Aq} {d:Nat} {ks:List (Str×NameKind)} {xs:List Str}
def Asa (i:Nat):EF:=λ ρ σ k=>oC (λ p=>k p σ) (Dg ρ i)
theorem Cq {J:Aj} {h:Heap} {env:Env} {ρ:Ax} (hE:As ks xs env ρ J h) {x:Str} {c:NameKind} (hk:ks.lookup x=some c):env.kindOf x=some c:=by
 unfold Env.kindOf;rw [hE.names];exact hk
theorem Azq {x:Str} {pos:Pos} {i:Nat} (hx:xs[i]?=some x) (hk:ks.lookup x=some .local) (hd:(x==("__debug__":Str))=false):SE B d ks xs (.Name x pos) (Asa i):=λ A s env ρ J σ hR hE hS k Q E e hQ=>oC_ e λ p hp e=>
 hE.at_.elim λ m q=>(q.2 i x hx hk p hp).elim λ v r=>wpAny_Name (wpAny_loadName_local hE.kind (Cq hE hk) q.1 r.1 (hQ v s J p σ e (.refl hS (Ab _ _)) r.2)) hd
theorem At7 {x:Str} {pos:Pos} {i:Nat} (hx:xs[i]?=some x) (hk:ks.lookup x=some .cell) (hd:(x==("__debug__":Str))=false):SE B d ks xs (.Name x pos) (Asa i):=λ A s env ρ J σ hR hE hS k Q E e hQ=>oC_ e λ p hp e=>by
 obtain ⟨c,v,hc,hv,r⟩:=hE.cell i x hx (.inl hk)
 obtain ⟨u,rfl,r'⟩:=r p hp
 exact wpAny_Name (wpAny_loadName_cell hE.kind (Cq hE hk) hc hv (hQ u s J p σ e (.refl hS (Ab _ _)) r')) hd
theorem Aub {x:Str} {pos:Pos} {i:Nat} (hx:xs[i]?=some x) (hk:ks.lookup x=some .free) (hd:(x==("__debug__":Str))=false) (hn:(x==("__classdict__":Str))=false):SE B d ks xs (.Name x pos) (Asa i):=λ A s env ρ J σ hR hE hS k Q E e hQ=>oC_ e λ p hp e=>by
 obtain ⟨c,v,hc,hv,r⟩:=hE.cell i x hx (.inr hk)
 obtain ⟨u,rfl,r'⟩:=r p hp
 exact wpAny_Name (wpAny_loadName_free hE.kind (Cq hE hk) hc hv (hQ u s J p σ e (.refl hS (Ab _ _)) r') hn) hd
def eC (p:PV):EF:=λ Z σ k=>k p σ
theorem Aal.tok {A:Around} {J:Aj} {σ:PS} {s:Shared} {α β:Type} {t:Sem α} {b:β} {rel:Aj->Heap->β->α->Prop} {a:α} {tk:Nat}
  (st:St B J σ s.heap) (h:∀ (Q:α->Shared->Prop) E,Q a {s with toks:=tk}->wpAny (model B.prog B.w) A t Q E s) (hr:rel J s.heap b a):Aal B A Ao J σ s t (ret b) rel:=
 λ k Q E e hQ=>h Q E (hQ a {s with toks:=tk} J b σ e (.tok st (Ab _ _) tk) hr)
theorem Azp {i:Int} {k:Nat} {pos:Pos}:SE B d ks xs (.Constant (.int i) k pos) (eC (.int i)):=λ A s env ρ J σ hR hE hS=>.tok hS (λ Q E h=>wpAny_Constant_int h) (C2 _ _)
theorem Azu {x:Str} {l:Nat} {k:Nat} {pos:Pos} (hx:x.cps.toList=Ba l):SE B d ks xs (.Constant (.str x) k pos) (eC (.str l)):=λ A s env ρ J σ hR hE hS=>.tok hS (λ Q E h=>Constant_str h) (Ep _ (by rw [<- hx]))
theorem At4 {b:Bool} {k:Nat} {pos:Pos}:SE B d ks xs (.Constant (.bool b) k pos) (eC (.bool b)):=λ A s env ρ J σ hR hE hS=>.tok (tk:=s.toks) hS (λ Q E h=>zzb h) (Zb _)
theorem Auj {k:Nat} {pos:Pos}:SE B d ks xs (.Constant .none k pos) (eC .none):=λ A s env ρ J σ hR hE hS=>.tok (tk:=s.toks) hS (λ Q E h=>zzb h) Zc
def Avt:EF:=λ Z Z Z=>false
theorem Aua {e:Expr}:SE B d ks xs e Avt:=λ A s env ρ J σ hR hE hS k Q E e hQ=>nomatch e
def Asy:LF:=λ Z σ k=>k [] σ
def Af9 (f:EF) (g:LF):LF:=λ ρ σ k=>f ρ σ λ p σ=>g ρ σ λ l σ=>k (p::l) σ
theorem Aum:SEL B d ks xs [] Asy:=λ A s env ρ J σ pos hR hE hS=>⟨rfl,rfl,λ k Q E e hQ=>zzb (hQ _ s J _ σ e (.refl hS (Ab _ _)) ⟨Cx,rfl⟩)⟩
theorem Aqt {e:Expr} {es:List Expr} {f:EF} {fs:LF} (h:SE B d ks xs e f) (hs:SEL B d ks xs es fs) (he:∀ env,starEach (e::es) env=(false,eval e env)::starEach es env):
  SEL B d ks xs (e::es) (Af9 f fs):=λ A s env ρ J σ pos hR hE hS=>by
 rw [he]
 exact ⟨(hs A s env ρ J σ pos hR hE hS).1,congrArg Nat.succ (hs A s env ρ J σ pos hR hE hS).2.1,λ k Q E e hQ=>spliced_cons (h A s env ρ J σ hR hE hS _ _ E e λ v s1 J1 p σ1 e x1 r1=>
  (hs A s1 env ρ J1 σ1 pos hR (hE.up x1) x1.st).2.2 _ _ E e λ vs s2 J2 ps σ2 e x2 r2=>hQ _ s2 J2 _ σ2 e (x1.trans x2) ⟨Bd (x2.up r1) r2.1,congrArg Nat.succ r2.2⟩)⟩
theorem RepL.length {J:Aj} {h:Heap}:∀ {ps:List PV} {vs:List Value},RepL J h ps vs->vs.length=ps.length
 | [],vs,r=>C8 (P:=λ vs=>vs.length=0) r rfl
 | p::l,vs,r=>A8 (P:=λ vs=>vs.length=l.length+1) r λ v us Z r=>congrArg Nat.succ r.length
def Bv:Nat:=100000
theorem B0:Bv≤sizeLine:=by decide
def len {α:Type} (l:List α):Nat:=@List.rec α (λ Z=>Nat) 0 (λ Z Z ih=>Nat.succ ih) l
theorem By {α:Type}:∀ l:List α,len l=l.length
 | []=>rfl
 | _::l=>congrArg Nat.succ (By l)
def An {α:Type} (l:List α):Bool:=Nat.ble (len l) Bv
theorem Ap {α:Type} {l:List α} (h:An l=true):l.length≤Bv:=By l▸zzi h
section
variable {A:Around} {J:Aj} {σ:PS} {s:Shared}
theorem Agf {ps:List PV} {vs:List Value} {Q E:Value->Shared->Prop} (st:St B J σ s.heap) (r:RepL J s.heap ps vs) (hz:ps.length≤Bv)
  (h:∀ v s',Nx B Ao J s J σ s'->Ae J s'.heap (.tup ps) v->Q v s'):wpAny (model B.prog B.w) A (newTuple vs) Q E s:=by
 have x:=Nx.keep st (Ab _ _) s.toks (Aw s.heap {cls:=.type "tuple",data:=.seq vs.toArray})
 exact wpAny_newTuple (h _ _ x (Ek (B5 st.idOk) ⟨_,zzd _ rfl,rfl⟩ ⟨_,zzd _ rfl,rfl,0,rfl⟩ (x.upL r))) (r.length▸Nat.le_trans hz B0)
theorem Am4 {ps:List PV} {vs:List Value} {Q E:Value->Shared->Prop} (st:St B J σ s.heap) (r:RepL J s.heap ps vs) (hz:ps.length≤Bv)
  (h:∀ v s',Nx B Ao J s J σ s'->Ae J s'.heap (.lst ps) v->Q v s'):wpAny (model B.prog B.w) A (newList vs) Q E s:=by
 have x:=Nx.keep st (Ab _ _) s.toks (Aw s.heap {cls:=.type "list",data:=.seq vs.toArray})
 exact wpAny_newList (h _ _ x (Hv (B5 st.idOk) ⟨_,zzd _ rfl,rfl,0,rfl⟩ (x.upL r))) (r.length▸Nat.le_trans hz B0)
theorem Aiw {ps:List PV} {vs:List Value} {k:Nat->PS->Bool} {Q E:Value->Shared->Prop} (e:Am (.list ps) σ k=true) (st:St B J σ s.heap) (r:RepL J s.heap ps vs) (hz:ps.length≤Bv)
  (h:∀ v s' J' i σ',k i σ'=true->Nx B Ao J s J' σ' s'->Ae J' s'.heap (.obj i) v->Q v s'):wpAny (model B.prog B.w) A (newList vs) Q E s:=Dy e λ t' hp e=>
 wpAny_newList (h _ _ _ _ _ e (Nx.push (o:={cls:=.type "list",data:=.seq vs.toArray}) st hp ⟨rfl,rfl,rfl,vs,0,rfl,r⟩ rfl s.toks) (Vi (Ql st _))) (r.length▸Nat.le_trans hz B0)
end
def A1g (f:LF):EF:=λ ρ σ k=>f ρ σ λ l σ=>k (.tup l) σ
def A1d (f:LF):EF:=λ ρ σ k=>f ρ σ λ l σ=>k (.lst l) σ
def Avv (f:LF):EF:=λ ρ σ k=>f ρ σ λ l σ=>Am (.list l) σ λ i σ=>k (.obj i) σ
theorem Azw {es:List Expr} {k:Nat} {pos:Pos} {f:LF} (h:SEL B d ks xs es f) (hz:es.length≤Bv):SE B d ks xs (.Tuple es k pos) (A1g f):=λ A s env ρ J σ hR hE hS k Q E e hQ=>
 Tuple_ ((h A s env ρ J σ pos hR hE hS).2.2 _ _ E e λ vs s1 J1 l σ1 e x r=>Agf x.st r.1 (r.2▸hz) λ v s2 y q=>hQ v s2 J1 _ σ1 e (x.trans y) q)
theorem Azr {es:List Expr} {pos:Pos} {f:LF} (h:SEL B d ks xs es f) (hz:es.length≤Bv):SE B d ks xs (.List es pos) (A1d f):=λ A s env ρ J σ hR hE hS k Q E e hQ=>
 List_ ((h A s env ρ J σ pos hR hE hS).2.2 _ _ E e λ vs s1 J1 l σ1 e x r=>Am4 x.st r.1 (r.2▸hz) λ v s2 y q=>hQ v s2 J1 _ σ1 e (x.trans y) q)
theorem Auf {es:List Expr} {pos:Pos} {f:LF} (h:SEL B d ks xs es f) (hz:es.length≤Bv):SE B d ks xs (.List es pos) (Avv f):=λ A s env ρ J σ hR hE hS k Q E e hQ=>
 List_ ((h A s env ρ J σ pos hR hE hS).2.2 _ _ E e λ vs s1 J1 l σ1 e x r=>Aiw e x.st r.1 (r.2▸hz) λ v s2 J2 i σ2 e y q=>hQ v s2 J2 _ σ2 e (x.trans y) q)
abbrev BO:=PV->PV->CM PV
def SB (B:Aq) (op:Operator) (f:BO):Prop:=
 ∀ (A:Around) (s:Shared) (J:Aj) (σ:PS) (p q:PV) (u v:Value),Cc A 0->St B J σ s.heap->Ae J s.heap p u->Ae J s.heap q v->Aal B A Ao J σ s (binaryOp op u v) (f p q) Agx
def A1b (o:BO) (f g:EF):EF:=λ ρ σ k=>f ρ σ λ p σ=>g ρ σ λ q σ=>o p q σ k
theorem Azm {op:Operator} {l r:Expr} {pos:Pos} {o:BO} {f g:EF} (ho:SB B op o) (hl:SE B d ks xs l f) (hr:SE B d ks xs r g):SE B d ks xs (.BinOp l op r pos) (A1b o f g):=λ A s env ρ J σ hR hE hS k Q E e hQ=>
 wpAny_BinOp (hl A s env ρ J σ hR hE hS _ _ E e λ u s1 J1 p σ1 e x1 r1=>hr A s1 env ρ J1 σ1 hR (hE.up x1) x1.st _ _ E e λ v s2 J2 q σ2 e x2 r2=>
  ho A s2 J2 σ2 p q u v (hR.mono (Nat.zero_le _)) x2.st (x2.up r1) r2 _ _ E e λ w s3 J3 b σ3 e x3 r3=>hQ w s3 J3 b σ3 e (x1.trans (x2.trans x3)) r3)
end
end
section
def nF (k:Nat->Bool) (n:Nat):Bool:=@Nat.rec (λ Z=>Bool) (k 0) (λ m Z=>k (Nat.succ m)) n
theorem nF_ (k:Nat->Bool):∀ n,nF k n=k n
 | 0=>rfl
 | _+1=>rfl
def Axk (a b:Int) (k:Int->Bool):Bool:=@Int.rec (λ Z=>Bool) (λ m=>@Int.rec (λ Z=>Bool) (λ n=>nF (λ s=>k (.ofNat s)) (Nat.add m n)) (λ Z=>k (a+b)) b) (λ Z=>k (a+b)) a
theorem Avj (k:Int->Bool):∀ a b,Axk a b k=k (a+b)
 | .ofNat m,.ofNat n=>nF_ (λ s=>k (.ofNat s)) (m+n)
 | .ofNat m,.negSucc n=>rfl
 | .negSucc m,_=>rfl
def A28 (a b:Int) (k:Int->Bool):Bool:=@Int.rec (λ Z=>Bool) (λ m=>@Int.rec (λ Z=>Bool) (λ n=>bC (k (a - b)) (nF (λ s=>k (.ofNat s)) (Nat.sub m n)) (Nat.ble n m)) (λ Z=>k (a - b)) b) (λ Z=>k (a - b)) a
theorem Awx (k:Int->Bool):∀ a b,A28 a b k=k (a - b)
 | .ofNat m,.ofNat n=>by
  show bC _ (nF _ (m - n)) (Nat.ble n m)=_
  cases h:Nat.ble n m with
  | false=>rfl
  | true=>exact (nF_ (λ s=>k (.ofNat s)) (m - n)).trans (show k (Int.ofNat (m - n))=k (Int.ofNat m - Int.ofNat n) from congrArg k (Int.ofNat_sub (zzi h)))
 | .ofNat m,.negSucc n=>rfl
 | .negSucc m,_=>rfl
def Oa {α:Type} (l r:List α) (k:List α->Bool):Bool:=@List.rec α (λ Z=>(List α->Bool)->Bool) (λ k=>k r) (λ a Z ih k=>ih λ r=>k (a::r)) l k
theorem I6 {α:Type} (r:List α):∀ (l:List α) (k:List α->Bool),Oa l r k=k (l++r)
 | [],_=>rfl
 | a::l,k=>I6 r l λ r=>k (a::r)
def Ac6 {α:Type} (l r:List α) (k:List α->Bool):Bool:=bC false (bC false (Oa l r k) (An r)) (An l)
theorem Ake {α:Type} {C:Prop} {l r:List α} {k:List α->Bool} (h:Ac6 l r k=true) (H:l.length≤Bv->r.length≤Bv->k (l++r)=true->C):C:=
 Bs h λ h1 h=>Bs h λ h2 h=>H (Ap h1) (Ap h2) ((I6 r l k).symm.trans h)
section
variable {B:Aq} {A:Around} {J:Aj} {σ:PS} {s:Shared} {v:Value} {p:PV} {P:Value->Prop}
theorem S6 {k:Int->Bool} (h:Eu k p=true):∃ i,p=.int i/\k i=true:=by
 cases p<;>first|exact ff h|exact ⟨_,rfl,h⟩
theorem Pz {k:Nat->Bool} (h:El k p=true):∃ i,p=.str i/\k i=true:=by
 cases p<;>first|exact ff h|exact ⟨_,rfl,h⟩
theorem Ajw {k:Bool->Bool} (h:Nm k p=true):∃ i,p=.bool i/\k i=true:=by
 cases p<;>first|exact ff h|exact ⟨_,rfl,h⟩
theorem Acf {k:List PV->Bool} (h:Lo k p=true):∃ i,p=.tup i/\k i=true:=by
 cases p<;>first|exact ff h|exact ⟨_,rfl,h⟩
theorem Alw {k:Nat->Bool} (h:Qq k p=true):∃ i,p=.obj i/\k i=true:=by
 cases p<;>first|exact ff h|exact ⟨_,rfl,h⟩
theorem Arh {k:Nat->Nat->Bool} (h:Ahf k p=true):∃ C d,p=.inst C d/\k C d=true:=by
 cases p<;>first|exact ff h|exact ⟨_,_,rfl,h⟩
@[elab_as_elim] theorem Ud {k:Int->Bool} (e:Eu k p=true) (r:Ae J s.heap p v) (H:∀ i t,k i=true->P (.int i t)):P v:=(S6 e).elim λ i q=>Eh (P:=P) (v:=v) (q.1▸r) λ t=>H i t q.2
@[elab_as_elim] theorem Aej {k:Nat->Bool} (e:El k p=true) (r:Ae J s.heap p v) (H:∀ i t,k i=true->P (.str ⟨(Ba i).toArray⟩ t)):P v:=(Pz e).elim λ i q=>Ei (P:=P) (v:=v) (q.1▸r) λ t=>H i t q.2
@[elab_as_elim] theorem Aw6 {k:Bool->Bool} (e:Nm k p=true) (r:Ae J s.heap p v) (H:∀ b,k b=true->P (.bool b)):P v:=(Ajw e).elim λ i q=>((q.1▸r:Ae J s.heap (.bool i) v):v=.bool i)▸H i q.2
@[elab_as_elim] theorem Aj0 {k:List PV->Bool} (e:Lo k p=true) (r:Ae J s.heap p v) (H:∀ l a vs,k l=true->¬ J.has a->NoD s.heap a->IsTup s.heap a vs.toArray->RepL J s.heap l vs->P (.ref a)):P v:=
 (Acf e).elim λ i q=>Cw (P:=P) (v:=v) (q.1▸r) λ a vs=>H i a vs q.2
@[elab_as_elim] theorem Aa4 {k:Nat->Bool} (e:Qq k p=true) (r:Ae J s.heap p v) (H:∀ i a,k i=true->J.l[i]?=some a->P (.ref a)):P v:=(Alw e).elim λ i q=>F7 (P:=P) (v:=v) (q.1▸r) λ a=>H i a q.2
@[elab_as_elim] theorem Aw7 {k:Nat->Nat->Bool} (e:Ahf k p=true) (r:Ae J s.heap p v) (H:∀ C d x dx,k C d=true->C∈D3->J.l[d]?=some dx->s.heap.get? x=some (instObj C dx)->P (.ref x)):P v:=by
 obtain ⟨C,d,rfl,h⟩:=Arh e
 exact Y2 r λ x dx=>H C d x dx h
theorem Cp {C:Prop} {i:Nat} {a:Addr} {k:List PV->Bool} (h:Qm i σ k=true) (st:St B J σ s.heap) (ha:J.l[i]?=some a)
  (H:∀ l o vs n,k l=true->gT σ.t i=.list l->s.heap.get? a=some o->o.cls=.type "list"->o.dict=none->o.slots=#[]->o.data=.seq vs.toArray n->RepL J s.heap l vs->C):C:=A5t h λ l e h=>by
 obtain ⟨o,ho,r⟩:=st.objs i a ha
 rw [e] at r
 obtain ⟨a,b,c,vs,n,d,r⟩:=r
 exact H l o vs n h e ho a b c d r
theorem Eo {C:Prop} {i:Nat} {a:Addr} {k:List (PV×PV)->Bool->Bool} (h:V0 i σ k=true) (st:St B J σ s.heap) (ha:J.l[i]?=some a)
  (H:∀ d f o es n,k d f=true->gT σ.t i=.dict d f->s.heap.get? a=some o->o.ExactDict->Bw d->o.data=.dict es.toArray n->(f=true->n=d.length)->Bg B.w J s.heap d es->C):C:=A5s h λ d f e h=>by
 obtain ⟨o,ho,r⟩:=st.objs i a ha
 rw [e] at r
 obtain ⟨a,b,es,n,d',e',r⟩:=r
 exact H d f o es n h e ho a b d' e' r
def Ff (p:PV) (σ:PS) (k:List PV->Bool):Bool:=vC false F1 F1 F1 F1 k F2 (λ i=>Qm i σ k) F1 p
@[elab_as_elim] theorem Aa3 {k:List PV->Bool} (e:Ff p σ k=true) (st:St B J σ s.heap) (r:Ae J s.heap p v) (H:∀ l a vs,k l=true->s.heap.IsList a vs.toArray->RepL J s.heap l vs->P (.ref a)):P v:=by
 cases p with
 | lst l=>exact Mu r λ a vs Z t q=>H l a vs e t q
 | obj i=>exact F7 r λ a ha=>Cp e st ha λ l o vs n h Z ho hc Z Z hd q=>H l a vs h ⟨o,ho,hc,n,hd⟩ q
 | _=>exact ff e
theorem RepL.append {h:Heap}:∀ {l l':List PV} {vs vs':List Value},RepL J h l vs->RepL J h l' vs'->RepL J h (l++l') (vs++vs')
 | [],_,vs,vs',r,r'=>C8 (P:=λ vs=>RepL J h _ (vs++vs')) r r'
 | p::l,_,vs,vs',r,r'=>A8 (P:=λ vs=>RepL J h _ (vs++vs')) r λ v us a b=>Bd a (b.append r')
theorem sz2 {a b:Nat} (h1:a≤Bv) (h2:b≤Bv):a+b≤sizeLine:=Nat.le_trans (Nat.add_le_add h1 h2) (by decide)
theorem Arz {l l':List PV} {a b:Addr} {vs ws:List Value} {Q E:Value->Shared->Prop} (st:St B J σ s.heap) (na:¬ J.has a) (nb:¬ J.has b) (da:NoD s.heap a) (db:NoD s.heap b) (ta:IsTup s.heap a vs.toArray) (tb:IsTup s.heap b ws.toArray)
  (ra:RepL J s.heap l vs) (rb:RepL J s.heap l' ws) (z1:l.length≤Bv) (z2:l'.length≤Bv) (h:∀ v s',Nx B Ao J s J σ s'->Ae J s'.heap (.tup (l++l')) v->Q v s'):wpAny (model B.prog B.w) A (binaryOp .Add (.ref a) (.ref b)) Q E s:=by
 obtain ⟨⟨c1,d1,dt1,s1⟩,ho,hc,n1,hd⟩:=id ta
 obtain ⟨⟨c2,d2,dt2,s2⟩,ho',hc',n2,hd'⟩:=id tb
 cases hc;cases hc';cases hd;cases hd'
 have x0:=Nx.refl st (Ab J s.heap)
 by_cases e1:vs.toArray.isEmpty=true
 ·refine concat_meets ⟨_,ho,rfl⟩ ⟨_,ho',rfl⟩ noFill_tuple_add seq_tuple_add F.slot_tuple_add F.entry_tuple_add (F.args_tuple_add_2 _ _) (tuple_addW0 a b _ _ _ _ _ _ _ _ e1) ⟨ho,ho',h _ _ x0 ?_⟩
  cases l with
  | nil=>exact Ek nb db tb rb
  | cons p l=>exact A8 (P:=λ vs=>vs.toArray.isEmpty=true->_) ra (λ v us Z Z e=>nomatch e) e1
 ·by_cases e2:ws.toArray.isEmpty=true
  ·refine concat_meets ⟨_,ho,rfl⟩ ⟨_,ho',rfl⟩ noFill_tuple_add seq_tuple_add F.slot_tuple_add F.entry_tuple_add (F.args_tuple_add_2 _ _) (tuple_addW1 a b _ _ _ _ _ _ _ _ e1 e2) ⟨ho,ho',h _ _ x0 ?_⟩
   cases l' with
   | nil=>exact (List.append_nil l).symm▸Ek na da ta ra
   | cons p l=>exact A8 (P:=λ vs=>vs.toArray.isEmpty=true->_) rb (λ v us Z Z e=>nomatch e) e2
  ·have x:=Nx.keep st (Ab _ _) s.toks (Aw s.heap {cls:=.type "tuple",data:=.seq (vs.toArray++ws.toArray)})
   refine concat_meets ⟨_,ho,rfl⟩ ⟨_,ho',rfl⟩ noFill_tuple_add seq_tuple_add F.slot_tuple_add F.entry_tuple_add (F.args_tuple_add_2 _ _) (tuple_addW2 a b _ _ _ _ _ _ _ _ e1 e2 (by rw [List.size_toArray,List.size_toArray,ra.length,rb.length];exact sz2 z1 z2)) ⟨ho,ho',h _ _ x ?_⟩
   exact Ek (B5 st.idOk) ⟨_,zzd _ rfl,rfl⟩ ⟨_,zzd _ rfl,rfl,0,congrArg (λ x=>PySem.Data.seq x 0) (List.append_toArray vs ws)⟩ (x.upL (ra.append rb))
theorem Aka {a b:Addr} {vs ws:List Value} {Q E:Value->Shared->Prop} (ta:s.heap.IsList a vs.toArray) (tb:s.heap.IsList b ws.toArray) (z1:vs.length≤Bv) (z2:ws.length≤Bv)
  (h:Q (.ref s.heap.objs.size) {s with heap:=s.heap.push {cls:=.type "list",data:=.seq (vs++ws).toArray}}):wpAny (model B.prog B.w) A (binaryOp .Add (.ref a) (.ref b)) Q E s:=by
 obtain ⟨⟨c1,d1,dt1,s1⟩,ho,hc,n1,hd⟩:=id ta
 obtain ⟨⟨c2,d2,dt2,s2⟩,ho',hc',n2,hd'⟩:=id tb
 cases hc;cases hc';cases hd;cases hd'
 rw [<- List.append_toArray] at h
 exact concat_meets ⟨_,ho,rfl⟩ ⟨_,ho',rfl⟩ noFill_list_add seq_list_add PySem.F.slot_list_add PySem.F.entry_list_add (PySem.F.args_list_add_2 _ _) (list_addW a b vs.toArray ws.toArray n1 n2 d1 d2 s1 s2 (by rw [List.size_toArray,List.size_toArray];exact sz2 z1 z2)) ⟨ho,ho',h⟩
def Ary (a:List PV):PV->CM PV:=λ q σ k=>Ff q σ λ b=>Ac6 a b λ l=>k (.lst l) σ
def Qn:BO:=λ p q σ k=>vC false F1 (λ a=>Eu (λ b=>Axk a b λ i=>k (.int i) σ) q) (λ a=>El (λ b=>bC false (bC false (nF (λ s=>k (.str s) σ) (Ag0 a b)) (An (Ba b))) (An (Ba a))) q)
 (λ a=>Lo (λ b=>Ac6 a b λ l=>k (.tup l) σ) q) (λ a=>Ary a q σ k) F2 (λ i=>Qm i σ λ a=>Ary a q σ k) F1 p
theorem Aj9 {a:Addr} {l:List PV} {vs:List Value} {q:PV} {k:PV->PS->Bool} {Q E:Value->Shared->Prop} (e:Ary l q σ k=true) (st:St B J σ s.heap) (ta:s.heap.IsList a vs.toArray) (ra:RepL J s.heap l vs) (rv:Ae J s.heap q v)
  (hQ:∀ a s' J' b σ',k b σ'=true->Nx B Ao J s J' σ' s'->Agx J' s'.heap b a->Q a s'):wpAny (model B.prog B.w) A (binaryOp .Add (.ref a) v) Q E s:=
 Aa3 e st rv λ l' b ws e tb rb=>Ake e λ z1 z2 e=>by
  have x:=Nx.keep st (Ab _ _) s.toks (Aw s.heap {cls:=.type "list",data:=.seq (vs++ws).toArray})
  exact Aka ta tb (ra.length▸z1) (rb.length▸z2) (hQ _ _ J _ σ e x (Hv (B5 st.idOk) ⟨_,zzd _ rfl,rfl,0,rfl⟩ (x.upL (ra.append rb))))
theorem Azg:SB B .Add Qn:=λ A s J σ p q u v hR st ru rv k Q E e hQ=>by
 cases p with
 | int a=>exact Eh ru λ t=>Ud (k:=λ b=>Axk a b λ i=>k (.int i) σ) e rv λ b t' e=>wpAny_add_int (hQ _ _ J _ σ ((Avj _ a b).symm.trans e) (.tok st (Ab _ _) _) (C2 _ _))
 | str a=>exact Ei ru λ t=>Aej (k:=λ b=>bC false (bC false (nF (λ s=>k (.str s) σ) (Ag0 a b)) (An (Ba b))) (An (Ba a))) e rv λ b t' e=>Bs e λ z1 e=>Bs e λ z2 e=>
   PyProof.Rows.add_str (λ t' tk=>hQ _ {s with toks:=tk} J _ σ ((nF_ _ _).symm.trans e) (.tok st (Ab _ _) _) (Ep _ (by rw [Adf,<-List.append_toArray];rfl))) (by
    show (Ba a).toArray.size+(Ba b).toArray.size≤sizeLine
    rw [List.size_toArray,List.size_toArray];exact sz2 (Ap z1) (Ap z2))
 | tup a=>exact Cw ru λ x vs n d t ra=>Aj0 (k:=λ b=>Ac6 a b λ l=>k (.tup l) σ) e rv λ b y ws e n' d' t' rb=>Ake e λ z1 z2 e=>Arz st n n' d d' t t' ra rb z1 z2 λ v s' x r=>hQ v s' J _ σ e x r
 | lst a=>exact Mu ru λ x vs n t ra=>Aj9 e st t ra rv hQ
 | obj i=>exact F7 ru λ x hx=>Cp (k:=λ a=>Ary a q σ k) e st hx λ l o vs n e Z ho hc Z Z hd ra=>Aj9 e st ⟨o,ho,hc,n,hd⟩ ra rv hQ
 | _=>exact ff e
def All:BO:=λ p q σ k=>Ff p σ λ a=>Ff q σ λ b=>Ac6 a b λ l=>Am (.list l) σ λ i σ=>k (.obj i) σ
theorem Atu:SB B .Add All:=λ A s J σ p q u v hR st ru rv k Q E e hQ=>
 Aa3 e st ru λ l a vs e ta ra=>Aa3 e st rv λ l' b ws e tb rb=>Ake e λ z1 z2 e=>Dy e λ t' hp e=>
  Aka ta tb (ra.length▸z1) (rb.length▸z2) (hQ _ _ _ _ _ e (Nx.push (o:={cls:=.type "list",data:=.seq (vs++ws).toArray}) st hp ⟨rfl,rfl,rfl,vs++ws,0,rfl,ra.append rb⟩ rfl s.toks) (Vi (Ql st _)))
def Amt (f:Int->Int->(Int->Bool)->Bool):BO:=λ p q σ k=>Eu (λ a=>Eu (λ b=>f a b λ i=>k (.int i) σ) q) p
theorem Y3 {op:Operator} {f:Int->Int->(Int->Bool)->Bool} (H:∀ (A:Around) (s:Shared) a t b t' (k:Int->Bool) (Q E:Value->Shared->Prop),f a b k=true->(∀ i t tk,k i=true->Q (.int i t) {s with toks:=tk})->wpAny (model B.prog B.w) A (binaryOp op (.int a t) (.int b t')) Q E s):SB B op (Amt f):=
 λ A s J σ p q u v hR st ru rv k Q E e hQ=>Ud e ru λ a t e=>Ud e rv λ b t' e=>H A s a t b t' _ Q E e λ i t tk e=>hQ _ _ J _ σ e (.tok st (Ab _ _) _) (C2 _ _)
def Ath:BO:=Amt A28
theorem Azk:SB B .Sub Ath:=Y3 λ A s a t b t' k Q E e h=>PyProof.Rows.sub_int' (h _ _ _ ((Awx k a b).symm.trans e))
def Am7:BO:=Amt λ a b k=>bC (k (a.fmod b)) false (b==0)
theorem Azh:SB B .Mod Am7:=Y3 λ A s a t b t' k Q E e h=>by
 cases hz:(b==0) with
 | true=>rw [hz] at e;exact nomatch e
 | false=>rw [hz] at e;exact PyProof.Rows.mod_int' (λ q=>nomatch hz.symm.trans (beq_iff_eq.mpr q)) (h _ _ _ e)
def Ai2:BO:=Amt λ a b k=>bC (bC false (k (a.fdiv b)) (Nat.blt b.natAbs 1000)) false (b==0)
theorem Aql:SB B .FloorDiv Ai2:=Y3 λ A s a t b t' k Q E e h=>by
 cases hz:(b==0) with
 | true=>rw [hz] at e;exact nomatch e
 | false=>
  rw [hz] at e
  exact Bs e λ z e=>PyProof.Rows.floordiv_int (λ q=>nomatch hz.symm.trans (beq_iff_eq.mpr q)) (h _ _ _ e) (.inl (PyProof.noPylong_small (Nat.lt_of_lt_of_le (zzi z) (by decide))))
def Ayw:BO:=Amt λ a b k=>bC false (k (a*b)) (Nat.blt a.natAbs 1000)
theorem Azi:SB B .Mult Ayw:=Y3 λ A s a t b t' k Q E e h=>Bs e λ z e=>PyProof.Rows.mul_int (h _ _ _ e) (IntMulOk.of_left (by
 have z:a.natAbs<1000:=zzi z
 unfold Builtin.Int.intBits
 split
 ·omega
 ·rename_i h0
  have:=(Nat.log2_lt (λ q=>h0 (beq_iff_eq.mpr (Int.natAbs_eq_zero.mp q)):a.natAbs≠0)).mpr (show a.natAbs<2 ^ 10 by omega)
  omega))
def A5y:BO:=Amt λ a b k=>bC false (bC false (bC false (k (a ^ b.toNat)) (Nat.blt a.natAbs 1000)) (decide (b≤1000))) (decide (0≤b))
theorem Azj:SB B .Pow A5y:=Y3 λ A s a t b t' k Q E e h=>Bs e λ z1 e=>Bs e λ z2 e=>Bs e λ z3 e=>
 PyProof.Rows.pow_int_small (of_decide_eq_true z1) (by have:=of_decide_eq_true z2;omega) (by have:a.natAbs<1000:=zzi z3;omega) (h _ _ _ e)
end
def Ay4 (n:Nat) (p:PV) (k:List PV->Bool):Bool:=@Nat.rec (λ Z=>List PV->Bool) k (λ Z ih r=>ih (p::r)) n []
theorem A2q {p:PV} {k:List PV->Bool}:∀ n,Ay4 n p k=k (List.replicate n p):=λ n=>by
 have:∀ n (r:List PV),@Nat.rec (λ Z=>List PV->Bool) k (λ Z ih r=>ih (p::r)) n r=k (List.replicate n p++r):=λ n=>by
  induction n with
  | zero=>exact λ r=>rfl
  | succ n ih=>exact λ r=>(ih (p::r)).trans (congrArg k (by rw [List.replicate_succ',List.append_assoc];rfl))
 exact (this n []).trans (congrArg k (List.append_nil _))
theorem Afu (v:Value):∀ (k:Nat) (acc:List Value),List.foldl (λ (x1 x2:Array Value)=>x1++x2) acc.toArray (List.replicate k #[v])=(acc++List.replicate k v).toArray
 | 0,acc=>congrArg List.toArray (List.append_nil acc).symm
 | k+1,acc=>(congrArg (λ x=>List.foldl (λ (x1 x2:Array Value)=>x1++x2) x (List.replicate k #[v])) (List.append_toArray acc [v])).trans ((Afu v k (acc++[v])).trans (by rw [List.append_assoc];rfl))
section
variable {B:Aq} {A:Around} {J:Aj} {σ:PS} {s:Shared}
theorem As7 {l1:Addr} {v:Value} {n:Nat} {t:Tok} {p:PV} {Q E:Value->Shared->Prop} (st:St B J σ s.heap) (ho:s.heap.get? l1=some {cls:=.type "list",data:=.seq #[v]}) (rv:Ae J s.heap p v) (hn:n<1000)
  (h:∀ w s',Nx B Ao J s J σ s'->Ae J s'.heap (.lst (List.replicate n p)) w->Q w s'):wpAny (model B.prog B.w) A (binaryOp .Mult (.ref l1) (.int (Int.ofNat n) t)) Q E s:=by
 have hi:(Int.ofNat n)<1000:=Int.ofNat_lt.mpr hn
 have h0:0≤Int.ofNat n:=Int.natCast_nonneg n
 generalize hj:Int.ofNat n=j at *
 have z:=Nx.keep st (Ab _ _) s.toks (Aw s.heap {cls:=.type "list",data:=.seq (List.foldl (λ (x1 x2:Array Value)=>x1++x2) #[] (List.replicate (if #[v].isEmpty=true then 0 else j.toNat) #[v]))})
 refine wpAny_binaryOp_repeat_ref (T:="list") (U:="int") (by decide) ⟨_,ho,rfl⟩ (λ s'=>typeIs_int s' j t) noFill_list_mul F.fills_int_mul F.slot_int_rmul repeat_list F.slot_int_index.lookup
  (call_meets F.slot_int_rmul (typeIs_int s j t) F.entry_int_rmul (F.args_int_rmul_2 _ _) (int___rmul___int_list j t _ #[v] 0)
  ⟨ho,rfl,⟨_,ho,rfl⟩,call_meets F.slot_list_mul ⟨_,ho,rfl⟩ F.entry_list_mul (F.args_list_mul_2 _ _)
   (AutoListH.list___mul___list_int_3 _ #[v] 0 j t (by simp [Builtin.List.listFitsIndex];omega) (by rw [show (#[v]:Array Value).size=1 from rfl];omega) (by simp [Builtin.List.listTooLong,sizeLine];omega))
   ⟨ho,h _ _ z (Hv (B5 st.idOk) ⟨_,zzd _ rfl,rfl,0,by subst hj;exact congrArg (λ x=>PySem.Data.seq x 0) (Afu v n [])⟩ (z.upL ?_))⟩⟩)
 clear hn h z hi h0 hj
 induction n with
 | zero=>exact Cx
 | succ n ih=>exact Bd rv ih
end
section
variable {B:Aq} {d:Nat} {ks:List (Str×NameKind)} {xs:List Str}
def Avx (f:LF) (g:EF):EF:=λ ρ σ k=>f ρ σ λ l σ=>g ρ σ λ q σ=>Eu (λ i=>@Int.rec (λ Z=>Bool) (λ n=>bC false (on1 l λ p=>Ay4 n p λ r=>k (.lst r) σ) (Nat.blt n 1000)) F1 i) q
theorem As8 {A:Around} {J:Aj} {σ:PS} {s:Shared} {l1:Addr} {l:List PV} {vs:List Value} {q:PV} {u:Value} {k:PV->PS->Bool} {Q E:Value->Shared->Prop}
  (e:Eu (λ i=>@Int.rec (λ Z=>Bool) (λ n=>bC false (on1 l λ p=>Ay4 n p λ r=>k (.lst r) σ) (Nat.blt n 1000)) F1 i) q=true) (st:St B J σ s.heap) (ho:s.heap.get? l1=some {cls:=.type "list",data:=.seq vs.toArray}) (r:RepL J s.heap l vs) (rq:Ae J s.heap q u)
  (hQ:∀ a s' J' b σ',k b σ'=true->Nx B Ao J s J' σ' s'->Agx J' s'.heap b a->Q a s'):wpAny (model B.prog B.w) A (binaryOp .Mult (.ref l1) u) Q E s:=by
 refine Ud e rq λ i t e=>?_
 cases i with
 | negSucc n=>exact ff e
 | ofNat n=>
  refine Bs e λ hn e=>Oc e λ p hp e=>?_
  subst hp
  exact A8 (P:=λ vs=>s.heap.get? l1=some {cls:=.type "list",data:=.seq vs.toArray}->_) r (λ v us rv ru=>C8 (P:=λ us=>s.heap.get? l1=some {cls:=.type "list",data:=.seq (v::us).toArray}->_) ru λ ho=>
   As7 st ho rv (zzi hn) λ w s' z r=>hQ w s' J _ σ ((A2q n).symm.trans e) z r) ho
theorem Auh {es:List Expr} {lp pos:Pos} {r:Expr} {f:LF} {g:EF} (h:SEL B d ks xs es f) (h1:es.length≤Bv) (hr:SE B d ks xs r g):SE B d ks xs (.BinOp (.List es lp) .Mult r pos) (Avx f g):=λ A s env ρ J σ hR hE hS k Q E e hQ=>by
 refine wpAny_BinOp (List_ ((h A s env ρ J σ lp hR hE hS).2.2 _ _ E e λ vs s1 J1 l σ1 e x1 r1=>?_))
 have y:=Nx.keep x1.st (Ab _ _) s1.toks (Aw s1.heap {cls:=.type "list",data:=.seq vs.toArray})
 refine wpAny_newList (hr A _ env ρ J1 σ1 hR (hE.up (x1.trans y)) y.st _ _ E e λ v s2 J2 q σ2 e x2 r2=>?_) (r1.1.length▸r1.2▸Nat.le_trans h1 B0)
 exact As8 e x2.st (x2.g.keep _ _ (zzd _ rfl) (Aj.nl (B5 x1.st.idOk)) λ q=>q) (x2.upL (y.upL r1.1)) r2 λ a s' J' b σ' e z r=>hQ a s' J' b σ' e (x1.trans (y.trans (x2.trans z))) r
end
end
section
def eqI (a b:Int):Bool:=@Int.rec (λ Z=>Bool) (λ m=>@Int.rec (λ Z=>Bool) (λ n=>Nat.beq m n) F1 b) (λ m=>@Int.rec (λ Z=>Bool) F1 (λ n=>Nat.beq m n) b) a
theorem A16 (m n:Nat):Nat.beq m n=(m==n):=Bool.eq_iff_iff.mpr ⟨λ h=>beq_iff_eq.mpr (zzh h),λ h=>(beq_iff_eq.mp h)▸Nat.beq_refl m⟩
theorem H9:∀ a b:Int,eqI a b=(a==b)
 | .ofNat m,.ofNat n=>(A16 m n).trans (Bool.eq_iff_iff.mpr ⟨λ h=>beq_iff_eq.mpr (congrArg _ (beq_iff_eq.mp h)),λ h=>beq_iff_eq.mpr (Int.ofNat.inj (beq_iff_eq.mp h))⟩)
 | .negSucc m,.negSucc n=>(A16 m n).trans (Bool.eq_iff_iff.mpr ⟨λ h=>beq_iff_eq.mpr (congrArg _ (beq_iff_eq.mp h)),λ h=>beq_iff_eq.mpr (Int.negSucc.inj (beq_iff_eq.mp h))⟩)
 | .ofNat m,.negSucc n=>rfl
 | .negSucc m,.ofNat n=>rfl
def Asd (f:PV->PV->(Bool->Bool)->Bool) (l:List PV):List PV->(Bool->Bool)->Bool:=@List.rec _ (λ Z=>List PV->(Bool->Bool)->Bool) (λ r k=>lC (k true) (λ Z Z=>k false) r) (λ p Z ih r k=>lC (k false) (λ q r=>f p q λ a=>ih r λ b=>k (and a b)) r) l
def eqK (n:Nat):PV->PV->(Bool->Bool)->Bool:=@Nat.rec (λ Z=>PV->PV->(Bool->Bool)->Bool) (λ Z Z Z=>false) (λ Z ih p q k=>vC false
 (λ a=>Nm (λ b=>k (a==b)) q)
 (λ a=>vC false F1 (λ b=>k (eqI a b)) (λ Z=>k false) (λ Z=>k false) F1 F2 F1 F1 q)
 (λ a=>vC false F1 (λ Z=>k false) (λ b=>k (Nat.beq a b)) (λ Z=>k false) F1 F2 F1 F1 q)
 (λ a=>vC false F1 (λ Z=>k false) (λ Z=>k false) (λ b=>Asd ih a b k) F1 F2 F1 F1 q)
 F1 F2 F1 F1 p) n
structure EqT (A:Around) (s:Shared) (u v:Value) (b:Bool):Prop where
 e:SeqAt.EqAt A s u v b
 rc:SeqAt.RcAt A s u v b
 ne:SeqAt.RcNeAt A s u v (!b)
 same:u=v->b=true
theorem An6 (e:Nat->Bool) (n:Nat):(List.range (n+1)).all e=(e 0&&(List.range n).all λ j=>e (j+1)):=
 (congrArg (λ l=>List.all l e) List.range_succ_eq_map).trans (congrArg (e 0&&·) List.all_map)
section
variable {J:Aj} {s:Shared}
theorem A1h {A:Around} {f:PV->PV->(Bool->Bool)->Bool} (hf:∀ p q u v k,f p q k=true->Ae J s.heap p u->Ae J s.heap q v->∃ b,k b=true/\EqT A s u v b):∀ (l l':List PV) (us vs:List Value) (k:Bool->Bool),Asd f l l' k=true->RepL J s.heap l us->RepL J s.heap l' vs ->
  ∃ e:Nat->Bool,k ((List.range (min us.length vs.length)).all e&&us.length==vs.length)=true/\(∀ j (h1:j<us.length) (h2:j<vs.length),SeqAt.EqAt A s us[j] vs[j] (e j))/\(us=vs->((List.range (min us.length vs.length)).all e&&us.length==vs.length)=true):=by
 intro l
 induction l with
 | nil=>
  intro l' us vs k h r r'
  refine C8 r ?_
  cases l' with
  | nil=>refine C8 r' ?_;exact ⟨λ Z=>true,h,λ j h1=>absurd h1 (Nat.not_lt_zero j),λ Z=>rfl⟩
  | cons q l'=>exact A8 r' λ v vs Z Z=>⟨λ Z=>true,h,λ j h1=>absurd h1 (Nat.not_lt_zero j),λ e=>nomatch e⟩
 | cons p l ih=>
  intro l' us vs k h r r'
  refine A8 r λ u us ru r=>?_
  cases l' with
  | nil=>refine C8 r' ?_;exact ⟨λ Z=>true,h,λ j Z h2=>absurd h2 (Nat.not_lt_zero j),λ e=>nomatch e⟩
  | cons q l'=>
   refine A8 r' λ v vs rv r'=>?_
   obtain ⟨a,h,ta⟩:=hf p q u v _ h ru rv
   obtain ⟨e,h,he,hs⟩:=ih l' us vs _ h r r'
   have key:((List.range (min (u::us).length (v::vs).length)).all (λ j=>@Nat.rec (λ Z=>Bool) a (λ j Z=>e j) j)&&(u::us).length==(v::vs).length)=(a&&((List.range (min us.length vs.length)).all e&&us.length==vs.length)):=by
    show ((List.range (min (us.length+1) (vs.length+1))).all _&&(us.length+1==vs.length+1))=_
    rw [Nat.succ_min_succ,An6,Bool.and_assoc]
    exact congrArg (λ x=>a&&((List.range (min us.length vs.length)).all e&&x)) (Bool.eq_iff_iff.mpr ⟨λ h=>beq_iff_eq.mpr (Nat.succ.inj (beq_iff_eq.mp h)),λ h=>beq_iff_eq.mpr (congrArg _ (beq_iff_eq.mp h))⟩)
   refine ⟨λ j=>@Nat.rec (λ Z=>Bool) a (λ j Z=>e j) j,key▸h,λ j h1 h2=>?_,λ q=>key▸?_⟩
   ·cases j with
    | zero=>exact ta.e
    | succ j=>exact he j (Nat.lt_of_succ_lt_succ h1) (Nat.lt_of_succ_lt_succ h2)
   ·exact Bool.and_eq_true_iff.mpr ⟨ta.same (List.cons.inj q).1,hs (List.cons.inj q).2⟩
theorem Amm:∀ (n:Nat) {A:Around} (p q:PV) (u v:Value) (k:Bool->Bool),A.units+n<cLine->eqK n p q k=true->Ae J s.heap p u->Ae J s.heap q v->∃ b,k b=true/\EqT A s u v b:=by
 intro n
 induction n with
 | zero=>exact λ p q u v k Z h=>ff h
 | succ n ih=>
  intro A p q u v k hu h r r'
  have hu':A.units<cLine:=Nat.lt_of_le_of_lt (Nat.le_add_right _ _) hu
  cases p with
  | bool a=>
   obtain ⟨b,rfl,h⟩:=Ajw h
   cases (r:u=.bool a);cases (r':v=.bool b)
   exact ⟨_,h,.bool_bool _ _,.bool_bool _ _,.bool_bool _ _,λ e=>beq_iff_eq.mpr (Value.bool.inj e)⟩
  | int a=>
   refine Eh r λ t=>?_
   cases q with
   | int b=>exact Eh r' λ t'=>⟨_,h,H9 a b▸.int_int _ _ _ _,H9 a b▸.int_int _ _ _ _,H9 a b▸.int_int _ _ _ _,λ e=>(H9 a b).trans (beq_iff_eq.mpr (Value.int.inj e).1)⟩
   | str b=>exact Ei r' λ t'=>⟨_,h,.int_str _ _ _ _,.int_str _ _ _ _,.int_str _ _ _ _,λ e=>nomatch e⟩
   | tup b=>exact Cw r' λ c vs Z Z t2 Z=>⟨_,h,.int_tuple (items:=vs.toArray) _ _ t2 hu',.int_tuple (items:=vs.toArray) _ _ t2 hu',.int_tuple (items:=vs.toArray) _ _ t2 hu',λ e=>nomatch e⟩
   | _=>exact ff h
  | str a=>
   refine Ei r λ t=>?_
   cases q with
   | int b=>exact Eh r' λ t'=>⟨_,h,.str_int _ _ _ _,.str_int _ _ _ _,.str_int _ _ _ _,λ e=>nomatch e⟩
   | str b=>exact Ei r' λ t'=>⟨_,h,Fo a b▸.str_str _ _ _ _,Fo a b▸.str_str _ _ _ _,Fo a b▸.str_str _ _ _ _,λ e=>(Fo a b).trans (beq_iff_eq.mpr (Value.str.inj e).1)⟩
   | tup b=>exact Cw r' λ c vs Z Z t2 Z=>⟨_,h,.str_tuple (items:=vs.toArray) _ _ t2 hu',.str_tuple (items:=vs.toArray) _ _ t2 hu',.str_tuple (items:=vs.toArray) _ _ t2 hu',λ e=>nomatch e⟩
   | _=>exact ff h
  | tup a=>
   refine Cw r λ x us Z Z t1 r1=>?_
   cases q with
   | int b=>exact Eh r' λ t'=>⟨_,h,.tuple_int (items:=us.toArray) _ _ t1 hu',.tuple_int (items:=us.toArray) _ _ t1 hu',.tuple_int (items:=us.toArray) _ _ t1 hu',λ e=>nomatch e⟩
   | str b=>exact Ei r' λ t'=>⟨_,h,.tuple_str (items:=us.toArray) _ _ t1 hu',.tuple_str (items:=us.toArray) _ _ t1 hu',.tuple_str (items:=us.toArray) _ _ t1 hu',λ e=>nomatch e⟩
   | tup b=>
    refine Cw r' λ y vs Z Z t2 r2=>?_
    obtain ⟨e,h,he,hs⟩:=A1h (λ p q u v k=>ih (A:=A.in1) p q u v k (by rw [show A.in1.units=A.units+1 from rfl,Nat.add_assoc,Nat.add_comm 1 n];exact hu)) a b us vs k h r1 r2
    have k1:=SeqAt.RcAt.tuples (A:=A) (show s.heap.IsTuple x us.toArray from t1) (show s.heap.IsTuple y vs.toArray from t2) hu' he
    have k2:=SeqAt.RcNeAt.tuples (A:=A) (show s.heap.IsTuple x us.toArray from t1) (show s.heap.IsTuple y vs.toArray from t2) hu' he
    have hs':Value.ref x=.ref y->((List.range (min us.length vs.length)).all e&&us.length==vs.length)=true:=λ q=>by
     cases q
     obtain ⟨o,ho,_,m,hd⟩:=t1
     obtain ⟨o',ho',_,m',hd'⟩:=t2
     cases ho.symm.trans ho'
     exact hs (congrArg Array.toList (PySem.Data.seq.inj (hd.symm.trans hd')).1)
    refine ⟨_,h,?_,k1,k2,hs'⟩
    by_cases q:x=y
    ·rw [hs' (congrArg _ q),q];exact .same _
    ·exact .of_refs q k1
   | _=>exact ff h
  | _=>exact ff h
end
end
section
abbrev CO:=PV->PV->CM Bool
def SC (B:Aq) (op:CmpOp) (f:CO):Prop:=
 ∀ (A:Around) (s:Shared) (J:Aj) (σ:PS) (p q:PV) (u v:Value),Cc A 0->St B J σ s.heap->Ae J s.heap p u->Ae J s.heap q v->Avi B A J σ s (compareOp op u v) Value.bool (f p q)
section
variable {B:Aq} {d:Nat} {ks:List (Str×NameKind)} {xs:List Str}
def A1c (o:CO) (f g:EF):EF:=λ ρ σ k=>f ρ σ λ p σ=>g ρ σ λ q σ=>o p q σ λ b σ=>k (.bool b) σ
def A3d (o:CO) (f g:EF):Wm:=λ ρ σ k=>f ρ σ λ p σ=>g ρ σ λ q σ=>o p q σ k
theorem Azn {op:CmpOp} {l r:Expr} {pos:Pos} {o:CO} {f g:EF} (ho:SC B op o) (hl:SE B d ks xs l f) (hr:SE B d ks xs r g) (hm:behindInMarks op r=false):SE B d ks xs (.Compare l [op] [r] pos) (A1c o f g):=λ A s env ρ J σ hR hE hS k Q E e hQ=>
 wpAny_Compare1 (hl A s env ρ J σ hR hE hS _ _ E e λ u s1 J1 p σ1 e x1 r1=>hr A s1 env ρ J1 σ1 hR (hE.up x1) x1.st _ _ E e λ v s2 J2 q σ2 e x2 r2=>
  ho A s2 J2 σ2 p q u v (hR.mono (Nat.zero_le _)) x2.st (x2.up r1) r2 _ _ E e λ b s3 J3 σ3 e x3=>hQ _ s3 J3 _ σ3 e (x1.trans (x2.trans x3)) (Zb b)) hm
theorem Az8 {op:CmpOp} {l r:Expr} {pos:Pos} {o:CO} {f g:EF} (ho:SC B op o) (hl:SE B d ks xs l f) (hr:SE B d ks xs r g) (hm:behindInMarks op r=false):ST B d ks xs (.Compare l [op] [r] pos) (A3d o f g):=λ A s env ρ J σ hR hE hS k Q E e hQ=>
 wpAny_isTrue_Compare1 (hl A s env ρ J σ hR hE hS _ _ E e λ u s1 J1 p σ1 e x1 r1=>hr A s1 env ρ J1 σ1 hR (hE.up x1) x1.st _ _ E e λ v s2 J2 q σ2 e x2 r2=>
  ho A s2 J2 σ2 p q u v (hR.mono (Nat.zero_le _)) x2.st (x2.up r1) r2 _ _ E e λ b s3 J3 σ3 e x3=>wpAny_truthy_bool (hQ b s3 J3 σ3 e (x1.trans (x2.trans x3)))) hm
def Arb (o o':CO) (f g h:EF):Wm:=λ ρ σ k=>f ρ σ λ p σ=>g ρ σ λ q σ=>o p q σ λ b σ=>bC (k false σ) (h ρ σ λ r σ=>o' q r σ k) b
theorem Aq6 {l m r:Expr} {o1 o2:CmpOp} {pos:Pos} {c1 c2:CO} {f g h:EF} (h1:SC B o1 c1) (h2:SC B o2 c2) (hl:SE B d ks xs l f) (hm:SE B d ks xs m g) (hr:SE B d ks xs r h) (hmk:lastMarks [o1,o2] [m,r]=false):ST B d ks xs (.Compare l [o1,o2] [m,r] pos) (Arb c1 c2 f g h):=λ A s env ρ J σ hR hE hS k Q E e hQ=>by
 refine isTrue_chain (hl A s env ρ J σ hR hE hS _ _ E e λ u s1 J1 p σ1 e x1 r1=>?_) hmk
 refine test_link (hm A s1 env ρ J1 σ1 hR (hE.up x1) x1.st _ _ E e λ v s2 J2 q σ2 e x2 r2=>?_)
 refine h1 A s2 J2 σ2 p q u v (hR.mono (Nat.zero_le _)) x2.st (x2.up r1) r2 _ _ E e λ b s3 J3 σ3 e x3=>wpAny_truthy_bool ?_
 have y:=x1.trans (x2.trans x3)
 cases b with
 | false=>exact hQ false s3 J3 σ3 e y
 | true=>exact test_last (hr A s3 env ρ J3 σ3 hR (hE.up y) y.st _ _ E e λ w s4 J4 z σ4 e x4 r4=>h2 A s4 J4 σ4 q z v w (hR.mono (Nat.zero_le _)) x4.st ((x3.trans x4).up r2) r4 _ _ E e λ b s5 J5 σ5 e x5=>wpAny_truthy_bool (hQ b s5 J5 σ5 e (y.trans (x4.trans x5))))
def tE (f:EF):Wm:=λ ρ σ k=>f ρ σ λ p σ=>Nm (λ b=>k b σ) p
theorem A26 {e:Expr} {f:EF} (h:SE B d ks xs e f) (he:∀ env whole,isTrue e env whole=(do let v<-whole;standAt e.pos;holding [v] (truthy v))):ST B d ks xs e (tE f):=λ A s env ρ J σ hR hE hS k Q E e' hQ=>by
 rw [he]
 exact zza (h A s env ρ J σ hR hE hS _ _ E e' λ v s1 J1 p σ1 e x1 r1=>zza (wpAny_standAt (zzg (Aw6 (k:=λ b=>k b σ1) e r1 λ b e=>wpAny_truthy_bool (hQ b s1 J1 σ1 e x1)))))
def A3f (t:Wm):Wm:=λ ρ σ k=>t ρ σ λ b σ=>bC (k true σ) (k false σ) b
theorem Qg {k:Bool->Bool} {b:Bool} (h:bC (k true) (k false) b=true):k (!b)=true:=by cases b<;>exact h
theorem Az9 {e:Expr} {pos:Pos} {t:Wm} (h:ST B d ks xs e t):ST B d ks xs (.UnaryOp .Not e pos) (A3f t):=λ A s env ρ J σ hR hE hS k Q E e' hQ=>by
 show wpAny _ _ (do return !(<- isTrue _ env (eval _ env))) _ _ _
 exact zza (h A s env ρ J σ hR hE hS _ _ E e' λ b s1 J1 σ1 e x1=>zzb (hQ (!b) s1 J1 σ1 (Qg (k:=λ b=>k b σ1) e) x1))
def A3b (t u:Wm):Wm:=λ ρ σ k=>t ρ σ λ b σ=>bC (k false σ) (u ρ σ k) b
def tOr (t u:Wm):Wm:=λ ρ σ k=>t ρ σ λ b σ=>bC (u ρ σ k) (k true σ) b
theorem Az7 {x y:Expr} {pos:Pos} {t u:Wm} (hx:ST B d ks xs x t) (hy:ST B d ks xs y u):ST B d ks xs (.BoolOp .And [x,y] pos) (A3b t u):=λ A s env ρ J σ hR hE hS k Q E e hQ=>by
 show wpAny _ _ (do match BoolOp.And,<-isTrue x env (eval x env) with
  | .And,false=>pure false
  | .Or,true=>pure true
  | _,_=>(do match BoolOp.And,<-isTrue y env (eval y env) with
   | .And,false=>pure false
   | .Or,true=>pure true
   | _,_=>pure (BoolOp.And==BoolOp.And))) _ _ _
 exact zza (hx A s env ρ J σ hR hE hS _ _ E e λ b s1 J1 σ1 e x1=>by
  cases b with
  | false=>exact zzb (hQ false s1 J1 σ1 e x1)
  | true=>exact zza (hy A s1 env ρ J1 σ1 hR (hE.up x1) x1.st _ _ E e λ b s2 J2 σ2 e x2=>by cases b<;>exact zzb (hQ _ s2 J2 σ2 e (x1.trans x2))))
theorem A27 {x y:Expr} {pos:Pos} {t u:Wm} (hx:ST B d ks xs x t) (hy:ST B d ks xs y u):ST B d ks xs (.BoolOp .Or [x,y] pos) (tOr t u):=λ A s env ρ J σ hR hE hS k Q E e hQ=>by
 show wpAny _ _ (do match BoolOp.Or,<-isTrue x env (eval x env) with
  | .And,false=>pure false
  | .Or,true=>pure true
  | _,_=>(do match BoolOp.Or,<-isTrue y env (eval y env) with
   | .And,false=>pure false
   | .Or,true=>pure true
   | _,_=>pure (BoolOp.Or==BoolOp.And))) _ _ _
 exact zza (hx A s env ρ J σ hR hE hS _ _ E e λ b s1 J1 σ1 e x1=>by
  cases b with
  | true=>exact zzb (hQ true s1 J1 σ1 e x1)
  | false=>exact zza (hy A s1 env ρ J1 σ1 hR (hE.up x1) x1.st _ _ E e λ b s2 J2 σ2 e x2=>by cases b<;>exact zzb (hQ _ s2 J2 σ2 e (x1.trans x2))))
def A1a (f g:EF):EF:=λ ρ σ k=>f ρ σ λ p σ=>Nm (λ b=>bC (k (.bool false) σ) (g ρ σ k) b) p
theorem Azl {x y:Expr} {pos:Pos} {f g:EF} (hx:SE B d ks xs x f) (hy:SE B d ks xs y g):SE B d ks xs (.BoolOp .And [x,y] pos) (A1a f g):=λ A s env ρ J σ hR hE hS k Q E e hQ=>by
 show wpAny _ _ (do
   let v<-eval x env
   standAt pos
   let t<-holding [v] (truthy v)
   match BoolOp.And,t with
   | .And,false|.Or,true=>pure v
   | _,_=>eval y env) _ _ _
 refine zza (hx A s env ρ J σ hR hE hS _ _ E e λ v s1 J1 p σ1 e x1 r1=>Aw6 (k:=λ b=>bC (k (.bool false) σ1) (g ρ σ1 k) b) e r1 λ b e=>zza (wpAny_standAt (zza (zzg (wpAny_truthy_bool ?_)))))
 cases b with
 | false=>exact zzb (hQ _ s1 J1 _ σ1 e x1 (Zb _))
 | true=>exact hy A s1 env ρ J1 σ1 hR (hE.up x1) x1.st _ _ E e λ v s2 J2 p σ2 e x2 r2=>hQ v s2 J2 p σ2 e (x1.trans x2) r2
def Ax1 (f:EF):EF:=λ ρ σ k=>f ρ σ λ p σ=>Eu (λ i=>k (.int (-i)) σ) p
theorem Azs {x:Expr} {pos:Pos} {f:EF} (hx:SE B d ks xs x f):SE B d ks xs (.UnaryOp .USub x pos) (Ax1 f):=λ A s env ρ J σ hR hE hS k Q E e hQ=>by
 show wpAny _ _ (do let v<-eval x env;standAt pos;holding [v] (unaryOp .USub v)) _ _ _
 exact zza (hx A s env ρ J σ hR hE hS _ _ E e λ v s1 J1 p σ1 e x1 r1=>zza (wpAny_standAt (zzg (Ud (k:=λ i=>k (.int (-i)) σ1) e r1 λ i t e=>PyProof.Rows.neg_int (hQ _ _ J1 _ σ1 e (x1.toks _) (C2 _ _))))))
def eIf (t:Wm) (f g:EF):EF:=λ ρ σ k=>t ρ σ λ b σ=>bC (g ρ σ k) (f ρ σ k) b
theorem A20 {t x y:Expr} {pos:Pos} {c:Wm} {f g:EF} (ht:ST B d ks xs t c) (hx:SE B d ks xs x f) (hy:SE B d ks xs y g):SE B d ks xs (.IfExp t x y pos) (eIf c f g):=λ A s env ρ J σ hR hE hS k Q E e hQ=>by
 show wpAny _ _ (do if<-isTrue t env (eval t env) then eval x env else eval y env) _ _ _
 exact zza (ht A s env ρ J σ hR hE hS _ _ E e λ b s1 J1 σ1 e x1=>by
  cases b with
  | true=>exact hx A s1 env ρ J1 σ1 hR (hE.up x1) x1.st _ _ E e λ v s2 J2 p σ2 e x2 r2=>hQ v s2 J2 p σ2 e (x1.trans x2) r2
  | false=>exact hy A s1 env ρ J1 σ1 hR (hE.up x1) x1.st _ _ E e λ v s2 J2 p σ2 e x2 r2=>hQ v s2 J2 p σ2 e (x1.trans x2) r2)
end
section
variable {B:Aq}
theorem Sz {op:CmpOp} {f:PV->PV->PS->(Bool->Bool)->Bool} (H:∀ (A:Around) (s:Shared) (J:Aj) (σ:PS) (p q:PV) (u v:Value) (k:Bool->Bool),Cc A 0->St B J σ s.heap->Ae J s.heap p u->Ae J s.heap q v->f p q σ k=true ->
  ∃ b,k b=true/\∀ (Q E:Value->Shared->Prop),Q (.bool b) s->wpAny (model B.prog B.w) A (compareOp op u v) Q E s):SC B op λ p q σ k=>f p q σ λ b=>k b σ:=λ A s J σ p q u v hR st ru rv k Q E e hQ=>
 (H A s J σ p q u v _ hR st ru rv e).elim λ b h=>h.2 Q E (hQ b s J σ h.1 (.refl st (Ab _ _)))
def Ab1 (a b:List PV) (k:Bool->Bool):Bool:=lC (lC (k true) (λ Z Z=>k false) b) (λ Z Z=>lC (k false) F2 b) a
def eqS (p q:PV) (σ:PS) (k:Bool->Bool):Bool:=vC false (λ Z=>eqK 60 p q k) (λ Z=>eqK 60 p q k) (λ Z=>eqK 60 p q k) (λ Z=>eqK 60 p q k) (λ a=>Ff q σ λ b=>Ab1 a b k) F2 (λ i=>Qm i σ λ a=>Ff q σ λ b=>Ab1 a b k) F1 p
section
variable {A:Around} {J:Aj} {σ:PS} {s:Shared} {u v:Value} {p q:PV} {k:Bool->Bool}
theorem Apn {l l':List PV} {a b:Addr} {us vs:List Value} (hu:A.units<cLine) (e:Ab1 l l' k=true) (ta:s.heap.IsList a us.toArray) (tb:s.heap.IsList b vs.toArray) (ra:RepL J s.heap l us) (rb:RepL J s.heap l' vs):
  ∃ b',k b'=true/\SeqAt.RcAt A s (.ref a) (.ref b) b'/\SeqAt.RcNeAt A s (.ref a) (.ref b) (!b'):=by
 cases l with
 | nil=>
  cases l' with
  | nil=>exact C8 (P:=λ us=>s.heap.IsList a us.toArray->_) ra (λ ta=>C8 (P:=λ vs=>s.heap.IsList b vs.toArray->_) rb (λ tb=>⟨true,e,SeqAt.RcAt.lists (e:=λ Z=>true) ta tb rfl hu (λ j h1 Z=>absurd h1 (Nat.not_lt_zero j)),SeqAt.RcNeAt.lists (e:=λ Z=>true) ta tb rfl hu (λ j h1 Z=>absurd h1 (Nat.not_lt_zero j))⟩) tb) ta
  | cons p l'=>exact C8 (P:=λ us=>s.heap.IsList a us.toArray->_) ra (λ ta=>A8 (P:=λ vs=>s.heap.IsList b vs.toArray->_) rb (λ v vs Z Z tb=>⟨false,e,SeqAt.RcAt.lists_lengths ta tb rfl hu,SeqAt.RcNeAt.lists_lengths ta tb rfl hu⟩) tb) ta
 | cons p l=>
  cases l' with
  | nil=>exact C8 (P:=λ us=>s.heap.IsList b us.toArray->_) rb (λ tb=>A8 (P:=λ vs=>s.heap.IsList a vs.toArray->_) ra (λ v vs Z Z ta=>⟨false,e,SeqAt.RcAt.lists_lengths ta tb rfl hu,SeqAt.RcNeAt.lists_lengths ta tb rfl hu⟩) ta) tb
  | cons q l'=>exact ff e
theorem A1j (hR:Cc A 0) (st:St B J σ s.heap) (ru:Ae J s.heap p u) (rv:Ae J s.heap q v) (e:eqS p q σ k=true):∃ b,k b=true/\SeqAt.RcAt A s u v b/\SeqAt.RcNeAt A s u v (!b):=by
 have hu:A.units+60<cLine:=Nat.lt_of_le_of_lt (Nat.add_le_add_left (by decide) _) hR.2.1
 have hu':A.units<cLine:=Nat.lt_of_le_of_lt (Nat.le_add_right _ _) hu
 have key:eqK 60 p q k=true->∃ b,k b=true/\SeqAt.RcAt A s u v b/\SeqAt.RcNeAt A s u v (!b):=λ e=>(Amm 60 p q u v k hu e ru rv).elim λ b h=>⟨b,h.1,h.2.rc,h.2.ne⟩
 cases p with
 | bool a=>exact key e
 | int a=>exact key e
 | str a=>exact key e
 | tup a=>exact key e
 | lst a=>exact Mu ru λ x us Z ta ra=>Aa3 (k:=λ b=>Ab1 a b k) e st rv λ l y vs e tb rb=>Apn hu' e ta tb ra rb
 | obj i=>exact F7 ru λ x hx=>Cp (k:=λ a=>Ff q σ λ b=>Ab1 a b k) e st hx λ a o us n e Z ho hc Z Z hd ra=>Aa3 (k:=λ b=>Ab1 a b k) e st rv λ l y vs e tb rb=>Apn hu' e ⟨o,ho,hc,n,hd⟩ tb ra rb
 | _=>exact ff e
end
def nt (k:Bool->Bool) (b:Bool):Bool:=bC (k true) (k false) b
def pEq:CO:=λ p q σ k=>eqS p q σ λ b=>k b σ
def pNe:CO:=λ p q σ k=>eqS p q σ (nt λ b=>k b σ)
theorem Awr:SC B .Eq pEq:=Sz (f:=eqS) λ A s J σ p q u v k hR st ru rv e=>(A1j hR st ru rv e).elim λ b h=>⟨b,h.1,λ Q E hq=>h.2.1 _ _ _ _ hq⟩
theorem Awt:SC B .NotEq pNe:=Sz (f:=λ p q σ k=>eqS p q σ (nt k)) λ A s J σ p q u v k hR st ru rv e=>(A1j hR st ru rv e).elim λ b h=>⟨!b,Qg h.1,λ Q E hq=>h.2.2 _ _ _ _ hq⟩
def ltI (a b:Int) (k:Bool->Bool):Bool:=@Int.rec (λ Z=>Bool) (λ m=>@Int.rec (λ Z=>Bool) (λ n=>k (Nat.blt m n)) (λ Z=>k (decide (a<b))) b) (λ Z=>k (decide (a<b))) a
theorem Aaq (k:Bool->Bool):∀ a b,ltI a b k=k (decide (a<b))
 | .ofNat m,.ofNat n=>congrArg k (Bool.eq_iff_iff.mpr ⟨λ h=>decide_eq_true (Int.ofNat_lt.mpr (zzi h)),λ h=>Nat.ble_eq_true_of_le (Int.ofNat_lt.mp (of_decide_eq_true h))⟩)
 | .ofNat m,.negSucc n=>rfl
 | .negSucc m,_=>rfl
def Ap4 (f:Int->Int->(Bool->Bool)->Bool):CO:=λ p q σ k=>Eu (λ a=>Eu (λ b=>f a b λ c=>k c σ) q) p
theorem Ad6 {op:CmpOp} {f:Int->Int->(Bool->Bool)->Bool} {g:Int->Int->Bool} (hf:∀ a b k,f a b k=true->k (g a b)=true) (H:∀ (A:Around) (s:Shared) a t b t' (Q E:Value->Shared->Prop),Q (.bool (g a b)) s->wpAny (model B.prog B.w) A (compareOp op (.int a t) (.int b t')) Q E s):SC B op (Ap4 f):=
 λ A s J σ p q u v hR st ru rv k Q E e hQ=>Ud e ru λ a t e=>Ud e rv λ b t' e=>H A s a t b t' Q E (hQ _ s J σ (hf a b _ e) (.refl st (Ab _ _)))
def pLt:CO:=Ap4 ltI
def pGt:CO:=Ap4 λ a b=>ltI b a
def pLe:CO:=Ap4 λ a b k=>ltI b a (nt k)
def pGe:CO:=Ap4 λ a b k=>ltI a b (nt k)
theorem Als:SC B .Lt pLt:=Ad6 (g:=λ a b=>decide (a<b)) (λ a b k e=>(Aaq k a b).symm.trans e) λ A s a t b t' Q E h=>PyProof.Rows.lt_int h
theorem Aws:SC B .Gt pGt:=Ad6 (g:=λ a b=>decide (b<a)) (λ a b k e=>(Aaq k b a).symm.trans e) λ A s a t b t' Q E h=>PyProof.Rows.gt_int h
theorem Ab4 (a b:Int):(!decide (b<a))=decide (a≤b):=decide_not.symm.trans (decide_eq_decide.mpr Int.not_lt)
theorem Aqq:SC B .LtE pLe:=Ad6 (g:=λ a b=>decide (a≤b)) (λ a b k e=>Ab4 a b▸Qg ((Aaq (nt k) b a).symm.trans e)) λ A s a t b t' Q E h=>PyProof.Rows.le_int h
theorem A2v:SC B .GtE pGe:=Ad6 (g:=λ a b=>decide (b≤a)) (λ a b k e=>Ab4 b a▸Qg ((Aaq (nt k) a b).symm.trans e)) λ A s a t b t' Q E h=>PyProof.Rows.ge_int h
def isN (p:PV):Bool:=vC true F1 F1 F1 F1 F1 F2 F1 F1 p
def Nn (k:Bool) (p:PV):Bool:=vC k F1 F1 F1 F1 F1 F2 F1 F1 p
theorem Adw {J:Aj} {h:Heap} {p:PV} {u:Value} (r:Ae J h p u):plainIs u .none=true/\(u==.none)=isN p:=by
 cases p with
 | none=>cases (r:u=.none);exact ⟨rfl,rfl⟩
 | bool b=>cases (r:u=.bool b);exact ⟨rfl,rfl⟩
 | int i=>exact Eh r λ Z=>⟨rfl,rfl⟩
 | str i=>exact Ei r λ Z=>⟨rfl,rfl⟩
 | tup l=>exact Cw r λ Z Z Z Z Z Z=>⟨rfl,rfl⟩
 | lst l=>exact Mu r λ Z Z Z Z Z=>⟨rfl,rfl⟩
 | inst C d=>exact Y2 r λ Z Z Z Z Z=>⟨rfl,rfl⟩
 | obj i=>exact F7 r λ Z Z=>⟨rfl,rfl⟩
 | rng n=>exact Atp r λ Z Z Z Z Z=>⟨rfl,rfl⟩
 | sym n=>obtain ⟨i,t,_,rfl⟩:=(r:∃ (i:Nat) (t:Tok),i<n/\u=.int (Int.ofNat i) t);exact ⟨rfl,rfl⟩
theorem Ajx {k:Bool} {J:Aj} {h:Heap} {p:PV} {u:Value} (e:Nn k p=true) (r:Ae J h p u):u=.none/\k=true:=by
 cases p<;>first|exact ff e|exact ⟨r,e⟩
def pIs:CO:=λ p q σ k=>Nn (k (isN p) σ) q
def Ayu:CO:=λ p q σ k=>Nn (nt (λ b=>k b σ) (isN p)) q
theorem A2x:SC B .Is pIs:=Sz (f:=λ p q σ k=>Nn (k (isN p)) q) λ A s J σ p q u v k hR st ru rv e=>by
 obtain ⟨rfl,e⟩:=Ajx e rv
 exact ⟨_,e,λ Q E hq=>wpAny_is_plain (Adw ru).1 ((Adw ru).2.symm▸hq)⟩
theorem Aqp:SC B .IsNot Ayu:=Sz (f:=λ p q σ k=>Nn (nt k (isN p)) q) λ A s J σ p q u v k hR st ru rv e=>by
 obtain ⟨rfl,e⟩:=Ajx e rv
 exact ⟨_,Qg e,λ Q E hq=>wpAny_isNot_plain (Adw ru).1 ((Adw ru).2.symm▸hq)⟩
end
end
section
def Aar (ρ:Ax) (i:Nat) (p:Option PV):Ax:=@List.rec _ (λ Z=>Nat->Ax) (λ Z=>[]) (λ x r ih i=>@Nat.rec (λ Z=>Ax) (p::r) (λ j Z=>x::ih j) i) ρ i
def Ge (ρ:Ax) (i:Nat) (p:PV) (k:Ax->Bool):Bool:=@List.rec _ (λ Z=>Nat->(Ax->Bool)->Bool) (λ Z k=>k []) (λ x r ih i k=>@Nat.rec (λ Z=>Bool) (k (some p::r)) (λ j Z=>ih j λ r=>k (x::r)) i) ρ i k
theorem Pl {p:PV}:∀ (ρ:Ax) (i:Nat) (k:Ax->Bool),Ge ρ i p k=k (Aar ρ i (some p))
 | [],_,_=>rfl
 | _::_,0,_=>rfl
 | x::r,i+1,k=>Pl r i λ r=>k (x::r)
theorem Ci {p:Option PV}:∀ (ρ:Ax) (i j:Nat),j≠i->Dg (Aar ρ i p) j=Dg ρ j
 | [],_,_,_=>rfl
 | _::_,0,0,h=>(h rfl).elim
 | _::_,0,_+1,_=>rfl
 | _::_,_+1,0,_=>rfl
 | _::r,i+1,j+1,h=>Ci r i j λ e=>h (congrArg Nat.succ e)
theorem Ia {p:Option PV}:∀ (ρ:Ax) (i:Nat),Dg (Aar ρ i p) i=p\/Dg (Aar ρ i p) i=none
 | [],_=>.inr rfl
 | _::_,0=>.inl rfl
 | _::r,i+1=>Ia r i
theorem P9.set {J:Aj} {h:Heap} {ρ:Ax} {i:Nat} {p:PV} {v:Value} (r:Ae J h p v):P9 J h (Dg (Aar ρ i (some p)) i) (some v):=λ q e=>
 (Ia (p:=some p) ρ i).elim (λ w=>⟨v,rfl,Option.some.inj (w.symm.trans e)▸r⟩) λ w=>ns (w.symm.trans e)
def Mr (env:Env):Addr->Prop:=λ b=>b=env.locals
def Ck (env:Env):Addr->Prop:=λ b=>b=env.locals\/∃ x,(x,b)∈env.cells
theorem Ik (env:Env):∀ b,Mr env b->Ck env b:=λ Z e=>.inl e
section
variable {ks:List (Str×NameKind)} {xs:List Str} {env:Env} {ρ:Ax} {J:Aj} {h h':Heap}
theorem As.ownOk (x:As ks xs env ρ J h):A0 (Ck env) J h:=λ b e=>by
 rcases e with rfl|⟨n,e⟩
 ·obtain ⟨m,⟨o,es,ep,e,d,_⟩,_⟩:=x.at_
  exact ⟨o,e,.inl ⟨es,ep,d⟩⟩
 ·obtain ⟨v,o,e,d⟩:=x.cellIs n b e
  exact ⟨o,e,.inr (.inl ⟨v,d⟩)⟩
theorem As.okL (x:As ks xs env ρ J h):A0 (Mr env) J h:=x.ownOk.mono (Ik env)
theorem Ari (x:As ks xs env ρ J h) {i j:Nat} {y:Str} (a:xs[i]?=some y) (b:xs[j]?=some y):i=j:=by
 obtain ⟨h1,e1⟩:=List.getElem?_eq_some_iff.mp a
 obtain ⟨h2,e2⟩:=List.getElem?_eq_some_iff.mp b
 exact (List.getElem_inj x.nd).mp (e1.trans e2.symm)
theorem Yh {a:Addr} (hs:Heap.SameBut a h h') (hl:∃ o',h'.get? a=some o'):Ch (λ b=>b=a) J J h h':=
 ⟨⟨List.prefix_refl _,λ b o e Z q=>(hs.2 b q).trans e,λ Z q=>.inl q,rfl⟩,λ b o q e=>q▸hl⟩
end
section
variable {B:Aq} {A:Around} {J:Aj} {σ:PS} {s:Shared} {ks:List (Str×NameKind)} {xs:List Str} {env:Env} {ρ:Ax}
theorem Nx.one {own:Addr->Prop} {a:Addr} {h':Heap} (st:St B J σ s.heap) (tk:Nat) (hs:Heap.SameBut a s.heap h') (hl:∃ o',h'.get? a=some o') (ho:own a) (ok:A0 own J s.heap) (hn:¬ J.has a) (hb:B.h₀.get? a=none):Nx B own J s J σ {s with heap:=h',toks:=tk}:=by
 have g:=Yh (J:=J) hs hl
 have ok1:A0 (λ b=>b=a) J s.heap:=λ b q=>ok b (q▸ho)
 have st':=st.move0 g.toGrow0 ok1 (λ b q=>q▸hb) λ b q o e=>(hs.2 b λ e'=>hn (e'▸q)).trans e
 exact ⟨g.weaken (λ b q=>q▸ho) λ b q=>st'.live b q,⟨rfl,rfl⟩,st',st.idOk,ok⟩
theorem N0 {x:Str} {i:Nat} {p:PV} {v:Value} {Q:Unit->Shared->Prop} {E:Value->Shared->Prop} (hE:As ks xs env ρ J s.heap) (st:St B J σ s.heap) (hO:B.h₀.get? env.locals=none) (hx:xs[i]?=some x) (hk:ks.lookup x=some .local) (r:Ae J s.heap p v)
  (h:∀ s',Nx B (Mr env) J s J σ s'->As ks xs env (Aar ρ i (some p)) J s'.heap->Q () s'):wpAny (model B.prog B.w) A (storeName env x v) Q E s:=by
 obtain ⟨m,hn,hm⟩:=hE.at_
 refine wpAny_storeName_local (Cq hE hk) hn (λ h' hn' hs=>?_) (by rw [hE.kind];rfl)
 have y:Nx B (Mr env) J s J σ {s with heap:=h',toks:=s.toks+1}:=.one st _ hs (hn'.elim λ o q=>q.elim λ Z q=>q.elim λ Z q=>⟨o,q.1⟩) rfl hE.okL hE.notId hO
 refine h _ y ⟨hE.kind,hE.names,hE.globals,hE.builtins,hE.code,hE.notId,hE.cellsNot,⟨_,hn',λ j z ey ly=>?_⟩,λ j z ey ly=>?_,λ n c q=>(hE.cellIs n c q).elim λ w b=>⟨w,Dl y.g.toGrow0.mv (hE.cellsNot n c q).1 (hE.cellsNot n c q).2 b⟩,hE.apart,hE.nd⟩
 ·by_cases hj:j=i
  ·subst hj
   cases hx.symm.trans ey
   rw [if_pos rfl]
   exact .set (y.up r)
  ·rw [Ci ρ i j hj,if_neg (λ (e:z=x)=>hj (Ari hE ey (e▸hx)))]
   exact (hm j z ey ly).grow λ Z Z=>y.up
 ·obtain ⟨c,w,a,b,r'⟩:=hE.cell j z ey ly
  have hj:j≠i:=λ e=>by
   subst e;cases hx.symm.trans ey
   rcases ly with ly|ly<;>exact nomatch hk.symm.trans ly
  rw [Ci ρ i j hj]
  exact ⟨c,w,a,Dl y.g.toGrow0.mv (hE.cellsNot z c (mem_of_lookup a)).1 (hE.cellsNot z c (mem_of_lookup a)).2 b,r'.grow λ Z Z=>y.up⟩
theorem Acd {x:Str} {i:Nat} {p:PV} {v:Value} {Q:Unit->Shared->Prop} {E:Value->Shared->Prop} (hE:As ks xs env ρ J s.heap) (st:St B J σ s.heap) (hO:∀ b,Ck env b->B.h₀.get? b=none) (hx:xs[i]?=some x) (hk:ks.lookup x=some .cell) (r:Ae J s.heap p v)
  (h:∀ s',Nx B (Ck env) J s J σ s'->As ks xs env (Aar ρ i (some p)) J s'.heap->Q () s'):wpAny (model B.prog B.w) A (storeName env x v) Q E s:=by
 obtain ⟨m,hn,hm⟩:=hE.at_
 obtain ⟨c,w,hc,hw,_⟩:=hE.cell i x hx (.inl hk)
 have hmem:=mem_of_lookup hc
 have hcn:=hE.cellsNot x c hmem
 refine wpAny_storeName_cell hE.kind (Cq hE hk) hc hw (λ h' hn' hs=>?_)
 have hl:∃ o',h'.get? c=some o':=hn'.elim λ o q=>⟨o,q.1⟩
 have y:Nx B (Ck env) J s J σ {s with heap:=h'}:=.one st s.toks hs hl (.inr ⟨x,hmem⟩) hE.ownOk hcn.1 (hO c (.inr ⟨x,hmem⟩))
 have g1:=Yh (J:=J) hs hl
 refine h _ y ⟨hE.kind,hE.names,hE.globals,hE.builtins,hE.code,hE.notId,hE.cellsNot,⟨m,Ac0 g1.toGrow0.mv hE.notId (λ e=>hcn.2 e.symm) hn,λ j z ey ly=>?_⟩,λ j z ey ly=>?_,λ n c' q=>?_,hE.apart,hE.nd⟩
 ·have hj:j≠i:=λ e=>by
   subst e;cases hx.symm.trans ey
   exact nomatch hk.symm.trans ly
  rw [Ci ρ i j hj]
  exact (hm j z ey ly).grow λ Z Z=>y.up
 ·by_cases hj:j=i
  ·subst hj
   cases hx.symm.trans ey
   exact ⟨c,some v,hc,hn',.set (y.up r)⟩
  ·rw [Ci ρ i j hj]
   obtain ⟨c',w',a,b,r'⟩:=hE.cell j z ey ly
   exact ⟨c',w',a,Dl g1.toGrow0.mv (hE.cellsNot z c' (mem_of_lookup a)).1 (λ e=>hj (Ari hE ey ((name_of_addr hE.apart (mem_of_lookup a) (e▸hmem))▸hx))) b,r'.grow λ Z Z=>y.up⟩
 ·by_cases hcc:c'=c
  ·subst hcc;exact ⟨_,hn'⟩
  ·exact (hE.cellIs n c' q).elim λ w b=>⟨w,Dl g1.toGrow0.mv (hE.cellsNot n c' q).1 hcc b⟩
end
abbrev C0:=Ax->PS->(Ax->PS->Bool)->(PV->PS->Bool)->Bool
def Aj8 (B:Aq) (A:Around) (ks:List (Str×NameKind)) (xs:List Str) (env:Env) (J:Aj) (s:Shared) (t:Sem Flow) (m:(Ax->PS->Bool)->(PV->PS->Bool)->Bool):Prop:=
 ∀ (kn:Ax->PS->Bool) (kr:PV->PS->Bool) (Q:Flow->Shared->Prop) (E:Value->Shared->Prop),m kn kr=true ->
  (∀ s' J' ρ' σ',kn ρ' σ'=true->Nx B (Ck env) J s J' σ' s'->As ks xs env ρ' J' s'.heap->Q .next s') ->
  (∀ v s' J' p σ',kr p σ'=true->Nx B (Ck env) J s J' σ' s'->Ae J' s'.heap p v->Q (.ret v) s')->wpAny (model B.prog B.w) A t Q E s
def SS (B:Aq) (d:Nat) (ks:List (Str×NameKind)) (xs:List Str) (t:Stmt) (f:C0):Prop:=
 ∀ (A:Around) (s:Shared) (env:Env) (ρ:Ax) (J:Aj) (σ:PS),Cc A d->As ks xs env ρ J s.heap->St B J σ s.heap->(∀ b,Ck env b->B.h₀.get? b=none)->Aj8 B A ks xs env J s (exec t env) (f ρ σ)
def SSs (B:Aq) (d:Nat) (ks:List (Str×NameKind)) (xs:List Str) (ts:List Stmt) (f:C0):Prop:=
 ∀ (A:Around) (s:Shared) (env:Env) (ρ:Ax) (J:Aj) (σ:PS),Cc A d->As ks xs env ρ J s.heap->St B J σ s.heap->(∀ b,Ck env b->B.h₀.get? b=none)->Aj8 B A ks xs env J s (execs ts env) (f ρ σ)
section
variable {B:Aq} {d:Nat} {ks:List (Str×NameKind)} {xs:List Str}
theorem Aj8.after {A:Around} {env:Env} {J J1:Aj} {s s1:Shared} {σ1:PS} {t:Sem Flow} {m:(Ax->PS->Bool)->(PV->PS->Bool)->Bool} (h:Aj8 B A ks xs env J1 s1 t m) (x:Nx B (Ck env) J s J1 σ1 s1) {kn:Ax->PS->Bool} {kr:PV->PS->Bool} {Q:Flow->Shared->Prop} {E:Value->Shared->Prop} (e:m kn kr=true)
  (hN:∀ s' J' ρ' σ',kn ρ' σ'=true->Nx B (Ck env) J s J' σ' s'->As ks xs env ρ' J' s'.heap->Q .next s') (hT:∀ v s' J' p σ',kr p σ'=true->Nx B (Ck env) J s J' σ' s'->Ae J' s'.heap p v->Q (.ret v) s'):wpAny (model B.prog B.w) A t Q E s1:=
 h kn kr Q E e (λ s' J' ρ' σ' e y=>hN s' J' ρ' σ' e (x.trans y)) λ v s' J' p σ' e y=>hT v s' J' p σ' e (x.trans y)
def A2s:C0:=λ ρ σ kn Z=>kn ρ σ
def A2u (f g:C0):C0:=λ ρ σ kn kr=>f ρ σ (λ ρ σ=>g ρ σ kn kr) kr
theorem Au1:SSs B d ks xs [] A2s:=λ A s env ρ J σ hR hE hS hO kn kr Q E e hN hT=>wpAny_execs_nil (hN s J ρ σ e (.refl hS hE.ownOk) hE)
theorem Aq5 {t:Stmt} {ts:List Stmt} {f g:C0} (h:SS B d ks xs t f) (h':SSs B d ks xs ts g):SSs B d ks xs (t::ts) (A2u f g):=λ A s env ρ J σ hR hE hS hO kn kr Q E e hN hT=>
 wpAny_execs_cons (h A s env ρ J σ hR hE hS hO _ _ _ E e (λ s1 J1 ρ1 σ1 e x hE1=>(h' A s1 env ρ1 J1 σ1 hR hE1 x.st hO).after x e hN hT) hT)
def A2t (f:EF):C0:=λ ρ σ Z kr=>f ρ σ kr
theorem Az6 {e:Expr} {pos:Pos} {f:EF} (h:SE B d ks xs e f):SS B d ks xs (.Return (some e) pos) (A2t f):=λ A s env ρ J σ hR hE hS hO kn kr Q E e hN hT=>
 wpAny_Return_some (h A s env ρ J σ hR hE hS _ _ E e λ v s1 J1 p σ1 e x r=>hT v s1 J1 p σ1 e (x.e hE.ownOk) r)
def Alr:C0:=λ Z Z Z Z=>false
theorem Auv {t:Stmt}:SS B d ks xs t Alr:=λ A s env ρ J σ hR hE hS hO kn kr Q E e hN hT=>ff e
theorem Au0 {l:List Stmt}:SSs B d ks xs l Alr:=λ A s env ρ J σ hR hE hS hO kn kr Q E e hN hT=>ff e
def Awo (f:EF):C0:=λ ρ σ kn Z=>f ρ σ λ Z σ=>kn ρ σ
theorem Auu {e:Expr} {pos:Pos} {f:EF} (h:SE B d ks xs e f) (hs:∀ env,swapsWith e none pos.line env=pure false):SS B d ks xs (.Expr e pos) (Awo f):=λ A s env ρ J σ hR hE hS hO kn kr Q E e' hN hT=>by
 rw [exec_Expr env _ pos (by unfold interactive;rw [hE.kind];rfl) (hs env)]
 exact zza (wpAny_standAt (zza (h A s env ρ J σ hR hE hS _ _ E e' λ v s1 J1 p σ1 e x r=>wpAny_dropValue (hN s1 J1 ρ σ1 e (x.e hE.ownOk) (hE.up x)))))
def sIf (t:Wm) (f g:C0):C0:=λ ρ σ kn kr=>t ρ σ λ b σ=>bC (g ρ σ kn kr) (f ρ σ kn kr) b
theorem A25 {t:Expr} {body orelse:List Stmt} {pos:Pos} {c:Wm} {f g:C0} (ht:ST B d ks xs t c) (hb:SSs B d ks xs body f) (ho:SSs B d ks xs orelse g):SS B d ks xs (.If t body orelse pos) (sIf c f g):=λ A s env ρ J σ hR hE hS hO kn kr Q E e hN hT=>
 wpAny_If (ht A s env ρ J σ hR hE hS _ _ E e λ b s1 J1 σ1 e x=>by
  cases b with
  | true=>exact (hb A s1 env ρ J1 σ1 hR (hE.up x) x.st hO).after (x.e hE.ownOk) e hN hT
  | false=>exact (ho A s1 env ρ J1 σ1 hR (hE.up x) x.st hO).after (x.e hE.ownOk) e hN hT)
def T7 (t:Wm) (f:C0) (n:Nat):C0:=λ ρ σ kn kr=>@Nat.rec (λ Z=>Ax->PS->Bool) F2 (λ Z ih ρ σ=>t ρ σ λ b σ=>bC (kn ρ σ) (f ρ σ ih kr) b) n ρ σ
theorem Aq4 {t:Expr} {body:List Stmt} {pos:Pos} {c:Wm} {f:C0} (n:Nat) (ht:ST B d ks xs t c) (hb:SSs B d ks xs body f):SS B d ks xs (.While t body [] pos) (T7 c f n):=λ A s env ρ J σ hR hE hS hO kn kr Q E e hN hT=>by
 refine wpAny_While (codeAny_whileLoop (λ k s1=>∃ ρ1 J1 σ1,As ks xs env ρ1 J1 s1.heap/\T7 c f k ρ1 σ1 kn kr=true/\Nx B (Ck env) J s J1 σ1 s1) ?_ n ⟨ρ,J,σ,hE,e,.refl hS hE.ownOk⟩)
 rintro k s1 ⟨ρ1,J1,σ1,hE1,e1,x1⟩
 have hR':Cc (A.mark none) d:=(show A.mark none=A by cases A;simp [Around.mark])▸hR
 cases k with
 | zero=>exact ff e1
 | succ k=>
  refine ht _ s1 env ρ1 J1 σ1 hR' hE1 x1.st _ _ _ e1 λ b s2 J2 σ2 e x2=>?_
  have x:=x1.trans (x2.e hE1.ownOk)
  have hE2:=hE1.up x2
  cases b with
  | false=>exact wpAny_execs_nil (hN s2 J2 ρ1 σ2 e x hE2)
  | true=>exact (hb _ s2 env ρ1 J2 σ2 hR' hE2 x2.st hO).after x e (λ s3 J3 ρ3 σ3 e y hE3=>⟨k,Nat.lt_succ_self _,ρ3,J3,σ3,hE3,e,y⟩) λ v s3 J3 p σ3 e y r=>hT v s3 J3 p σ3 e y r
def Aqi (i:Nat) (f:EF):C0:=λ ρ σ kn Z=>f ρ σ λ p σ=>Ge ρ i p λ ρ=>kn ρ σ
theorem Auz {x:Str} {e:Expr} {pos pos':Pos} {f:EF} {i:Nat} (h:SE B d ks xs e f) (hx:xs[i]?=some x) (hk:ks.lookup x=some .local) (hs:∀ env:Env,env.scope.kind=.function->env.scope.names=ks->swapsWith e (some (.Name x pos')) pos.line env=pure false):
  SS B d ks xs (.Assign [.Name x pos'] e pos) (Aqi i f):=λ A s env ρ J σ hR hE hS hO kn kr Q E e hN hT=>
 wpAny_Assign_Name (h A s env ρ J σ hR hE hS _ _ E e λ v s1 J1 p σ1 e x1 r1=>N0 (hE.up x1) x1.st (hO _ (.inl rfl)) hx hk r1 λ s2 x2 hE2=>hN s2 J1 _ σ1 ((Pl ρ i _).symm.trans e) ((x1.e hE.ownOk).trans (x2.w (Ik env) (hE.up x1).ownOk)) hE2) (hs env hE.kind hE.names)
theorem Aux {x:Str} {e:Expr} {pos pos':Pos} {f:EF} {i:Nat} (h:SE B d ks xs e f) (hx:xs[i]?=some x) (hk:ks.lookup x=some .cell) (hs:∀ env:Env,env.scope.kind=.function->env.scope.names=ks->swapsWith e (some (.Name x pos')) pos.line env=pure false):
  SS B d ks xs (.Assign [.Name x pos'] e pos) (Aqi i f):=λ A s env ρ J σ hR hE hS hO kn kr Q E e hN hT=>
 wpAny_Assign_Name (h A s env ρ J σ hR hE hS _ _ E e λ v s1 J1 p σ1 e x1 r1=>Acd (hE.up x1) x1.st hO hx hk r1 λ s2 x2 hE2=>hN s2 J1 _ σ1 ((Pl ρ i _).symm.trans e) ((x1.e hE.ownOk).trans x2) hE2) (hs env hE.kind hE.names)
end
end
section
def Awe (n:Nat):Ax:=@Nat.rec (λ Z=>Ax) [] (λ Z ih=>none::ih) n
def Nt (n:Nat) (ps:List PV):Ax:=@List.rec _ (λ Z=>Ax) (Awe n) (λ p Z ih=>some p::ih) ps
abbrev Fn:=List PV->CM PV
def Ye (n:Nat) (f:C0):Fn:=λ ps σ k=>f (Nt n ps) σ (λ Z σ=>k .none σ) k
section
variable {B:Aq}
theorem Sk {kindOf:Str->Option NameKind}:∀ (binds:List (Str×Value)) (m:Str->Option Value) (x:Str),x∉binds.map (·.1)->bindL kindOf binds m x=m x
 | [],m,x,_=>rfl
 | (n,v)::r,m,x,h=>by
  simp only [List.map_cons,List.mem_cons,not_or] at h
  rw [bindL,Sk r _ x h.2]
  split
  ·exact if_neg h.1
  ·rfl
theorem Sj {kindOf:Str->Option NameKind}:∀ (binds:List (Str×Value)) (m:Str->Option Value) (x:Str),x∉binds.map (·.1)->bindC kindOf binds m x=m x
 | [],m,x,_=>rfl
 | (n,v)::r,m,x,h=>by
  simp only [List.map_cons,List.mem_cons,not_or] at h
  rw [bindC,Sj r _ x h.2]
  split
  ·rfl
  ·exact if_neg h.1
theorem Abj {kindOf:Str->Option NameKind}:∀ (ns:List Str) (vs:List Value) (m:Str->Option Value) (i:Nat) (x:Str),ns.Nodup->ns[i]?=some x->kindOf x=some .local->i<vs.length->bindL kindOf (ns.zip vs) m x=vs[i]?
 | [],_,_,i,x,_,e,_,_=>by simp at e
 | n::ns,[],_,i,x,_,_,_,h=>by simp at h
 | n::ns,v::vs,m,0,x,hnd,e,hk,_=>by
  simp only [List.getElem?_cons_zero,Option.some.injEq] at e
  subst e
  rw [List.nodup_cons] at hnd
  rw [List.zip_cons_cons,bindL,Sk _ _ _ (λ q=>hnd.1 (by
   obtain ⟨p,hp,e⟩:=List.mem_map.mp q
   rw [<- e];exact (List.of_mem_zip hp).1)),if_pos hk,if_pos rfl]
  rfl
 | n::ns,v::vs,m,i+1,x,hnd,e,hk,h=>by
  rw [List.nodup_cons] at hnd
  rw [List.zip_cons_cons,bindL]
  exact Abj ns vs _ i x hnd.2 (by simpa using e) hk (by simpa using h)
theorem Abi {kindOf:Str->Option NameKind}:∀ (ns:List Str) (vs:List Value) (m:Str->Option Value) (i:Nat) (x:Str),ns.Nodup->ns[i]?=some x->kindOf x≠some .local->i<vs.length->bindC kindOf (ns.zip vs) m x=vs[i]?
 | [],_,_,i,x,_,e,_,_=>by simp at e
 | n::ns,[],_,i,x,_,_,_,h=>by simp at h
 | n::ns,v::vs,m,0,x,hnd,e,hk,_=>by
  simp only [List.getElem?_cons_zero,Option.some.injEq] at e
  subst e
  rw [List.nodup_cons] at hnd
  rw [List.zip_cons_cons,bindC,Sj _ _ _ (λ q=>hnd.1 (by
   obtain ⟨p,hp,e⟩:=List.mem_map.mp q
   rw [<- e];exact (List.of_mem_zip hp).1)),if_neg hk,if_pos rfl]
  rfl
 | n::ns,v::vs,m,i+1,x,hnd,e,hk,h=>by
  rw [List.nodup_cons] at hnd
  rw [List.zip_cons_cons,bindC]
  exact Abi ns vs _ i x hnd.2 (by simpa using e) hk (by simpa using h)
theorem I9 {n:Nat}:∀ {ps:List PV} {i:Nat},i<ps.length->Dg (Nt n ps) i=ps[i]?
 | [],i,h=>absurd h (Nat.not_lt_zero i)
 | p::ps,0,_=>rfl
 | p::ps,i+1,h=>by
  exact I9 (ps:=ps) (i:=i) (Nat.lt_of_succ_lt_succ h)
theorem Afx:∀ (n i:Nat),Dg (Awe n) i=none
 | 0,_=>rfl
 | n+1,0=>rfl
 | n+1,i+1=>Afx n i
theorem I8 {n:Nat}:∀ {ps:List PV} {i:Nat},ps.length≤i->Dg (Nt n ps) i=none
 | [],i,_=>Afx n i
 | p::ps,0,h=>absurd h (Nat.not_succ_le_zero _)
 | p::ps,i+1,h=>by
  exact I8 (ps:=ps) (i:=i) (Nat.le_of_succ_le_succ h)
structure A0w (K:Frag) (a:Addr) (ks:List (Str×NameKind)) (k:Nat) (params:List Str) (body:List Stmt) (fd:FuncData):Prop where
 at_:∃ oc od osl,K.lookup a=some ⟨oc,od,.func fd,osl⟩
 names:fd.scope.names=ks
 kind:fd.scope.kind=.function
 co:fd.scope.isCoroutine=false
 gen:fd.scope.isGenerator=false
 body:fd.body=.stmts body
 closure:fd.closure=[]
 globals:fd.globals=mainGlobals
 builtins:fd.builtins=builtinsNs
 code:codeIn K fd.code fd.qualname=true
 bind:∀ vs:List Value,vs.length=k->bindArgs fd ⟨vs,[]⟩=pure (params.zip vs)
 len:params.length=k
theorem Hn {x:Str}:∀ (names:List (Str×NameKind)) (n:Nat) (acc:List (Str×Addr)),names.lookup x=some .cell\/(acc.lookup x).isSome=true->((cellsFrom n names acc).lookup x).isSome=true:=PySem.W.cellsFrom_some
theorem H8:∀ (names:List (Str×NameKind)) (n:Nat) (acc:List (Str×Addr)) (x:Str) (c:Addr),(x,c)∈cellsFrom n names acc->(x,c)∈acc\/n≤c
 | [],n,acc,x,c,h=>.inl h
 | (y,k)::r,n,acc,x,c,h=>by
  unfold cellsFrom at h
  split at h
  ·rcases H8 r (n+1) _ x c h with h|h
   ·rcases List.mem_cons.mp h with h|h
    ·cases h;exact .inr (Nat.le_refl _)
    ·exact .inl h
   ·exact .inr (Nat.le_of_succ_le h)
  ·exact H8 r n acc x c h
theorem F0:∀ (names:List (Str×NameKind)) (n:Nat) (acc:List (Str×Addr)),(∀ x∈names.map (·.1),x∉acc.map (·.1))->(acc.map (·.1)).Nodup->(names.map (·.1)).Nodup->((cellsFrom n names acc).map (·.1)).Nodup
 | [],_,_,_,h,_=>h
 | (y,k)::r,n,acc,hd,ha,hn=>by
  rw [List.map_cons,List.nodup_cons] at hn
  unfold cellsFrom
  split
  ·refine F0 r (n+1) _ (λ x hx q=>?_) ?_ hn.2
   ·rcases List.mem_cons.mp q with q|q
    ·exact hn.1 (by have q':x=y:=q;rw [<- q'];exact hx)
    ·exact hd x (zze _ hx) q
   ·rw [List.map_cons,List.nodup_cons]
    exact ⟨hd y zzf,ha⟩
  ·exact F0 r n acc (λ x hx=>hd x (zze _ hx)) ha hn.2
theorem Tl (names:List (Str×NameKind)) (n:Nat) (h:(names.map (·.1)).Nodup):((cellsFrom n names []).map (·.1)).Nodup:=F0 names n [] (λ Z Z q=>by cases q) List.nodup_nil h
theorem RepL.get {J:Aj} {h:Heap}:∀ {l:List PV} {vs:List Value},RepL J h l vs->∀ {j:Nat} {p:PV},l[j]?=some p->∃ v,vs[j]?=some v/\Ae J h p v
 | [],_,_,_,_,e=>nomatch e
 | q::l,vs,r,0,p,e=>A8 (P:=λ vs=>∃ v,vs[0]?=some v/\Ae J h p v) r λ v us a b=>⟨v,rfl,Option.some.inj e▸a⟩
 | q::l,vs,r,j+1,p,e=>A8 (P:=λ vs=>∃ v,vs[j+1]?=some v/\Ae J h p v) r λ v us a b=>b.get (j:=j) e
def SF (B:Aq) (d:Nat) (a:Addr) (k:Nat) (F:Fn):Prop:=
 ∀ (A:Around) (s:Shared) (J:Aj) (σ:PS) (ps:List PV) (vs:List Value),Cc A d->St B J σ s.heap->RepL J s.heap ps vs->ps.length=k->Aal B A Ao J σ s (call (.ref a) vs) (F ps) Agx
def SFc (B:Aq) (d:Nat) (a:Addr) (k:Nat) (F:Fn):Prop:=
 ∀ (A:Around) (s:Shared) (J:Aj) (σ:PS) (ps:List PV) (vs:List Value),Cc A d->St B J σ s.heap->RepL J s.heap ps vs->ps.length=k ->
  ∀ κ (R:Result->Shared->Prop),F ps σ κ=true->(∀ v s' J' p σ',κ p σ'=true->Nx B Ao J s J' σ' s'->Ae J' s'.heap p v->R (.ok (.ret v)) s')->codeAny (model B.prog B.w) A (.call (.ref a) ⟨vs,[]⟩) R s
theorem SFc.sf {d:Nat} {a:Addr} {k:Nat} {F:Fn} (h:SFc B d a k F):SF B d a k F:=λ A s J σ ps vs hR st r hk κ Q E e hQ=>wpAny_call (h A s J σ ps vs hR st r hk κ _ e hQ)
theorem SFc.mono {d d':Nat} {a:Addr} {k:Nat} {F:Fn} (h:SFc B d a k F) (hd:d≤d'):SFc B d' a k F:=λ A s J σ ps vs hR=>h A s J σ ps vs (hR.mono hd)
theorem As9 {h:Heap} {env:Env} {ks:List (Str×NameKind)} (hl:env.locals=h.objs.size) (hc:env.cells=cellsFrom (h.objs.size+1) ks []) {b:Addr} (q:Ck env b):h.objs.size≤b:=by
 rcases q with rfl|⟨x,q⟩
 ·exact Nat.le_of_eq hl.symm
 ·exact (H8 _ _ _ _ _ (hc▸q)).elim (λ h=>absurd h zzj) Nat.le_of_succ_le
theorem Aou {ks:List (Str×NameKind)} {k n:Nat} {xs:List Str} {fd:FuncData} {a:Addr} {env:Env} {J:Aj} {σ:PS} {s:Shared} {h1:Heap} {ps:List PV} {vs:List Value} {body:List Stmt} (hF:A0w B.K a ks k (xs.take k) body fd) (hn:xs.length=k+n) (hnd:xs.Nodup)
  (hks:∀ x∈xs,ks.lookup x=some .local\/ks.lookup x=some .cell) (hdist:(ks.map (·.1)).Nodup) (hlen:vs.length=k) (r:RepL J h1 ps vs) (he:callEnvC fd s.heap.objs.size a=env) (st:St B J σ s.heap)
  (ns:h1.Ns env.locals (bindL env.kindOf ((xs.take k).zip vs) λ Z=>none)) (cell:∀ x c,env.cells.lookup x=some c->h1.IsCell c (bindC env.kindOf ((xs.take k).zip vs) (λ Z=>none) x)) (apart:env.cells.Pairwise λ x y=>x.2≠y.2):As ks xs env (Nt n ps) J h1:=by
 have hscope:env.scope=fd.scope:=by rw [<- he];rfl
 have hloc:env.locals=s.heap.objs.size:=by rw [<- he];rfl
 have hcells:env.cells=cellsFrom (s.heap.objs.size+1) ks []:=by rw [<- he,<-hF.names];rfl
 have hkindOf:∀ x,env.kindOf x=ks.lookup x:=λ x=>by unfold Env.kindOf;rw [hscope,hF.names]
 have newOf:∀ c,s.heap.objs.size≤c->¬ J.has c:=λ c hc q=>(st.alive c q).elim λ o e=>absurd (Heap.lt_size e) (Nat.not_lt.mpr hc)
 have hpl:ps.length=k:=r.length.symm.trans hlen
 have hxi:∀ i x,xs[i]?=some x->i<k->(xs.take k)[i]?=some x:=λ i x e h=>by rw [List.getElem?_take,if_pos h];exact e
 have hndk:(xs.take k).Nodup:=hnd.sublist (List.take_sublist _ _)
 have at_p:∀ {i:Nat} {p:PV},Dg (Nt n ps) i=some p->i<k/\∃ v,vs[i]?=some v/\Ae J h1 p v:=λ {i p} hp=>by
  rcases Nat.lt_or_ge i ps.length with hi|hi
  ·exact ⟨hpl▸hi,r.get ((I9 hi).symm.trans hp)⟩
  ·exact nomatch (I8 hi).symm.trans hp
 have hnames:(env.cells.map (·.1)).Nodup:=by rw [hcells];exact Tl ks _ hdist
 refine ⟨by rw [hscope];exact hF.kind,by rw [hscope];exact hF.names,by rw [<- he];exact hF.globals,by rw [<- he];exact hF.builtins,?_,by rw [hloc];exact newOf _ (Nat.le_refl _),λ x c hc=>?_,⟨_,ns,λ i x ex lx p hp=>?_⟩,λ i x ex lx=>?_,λ x c hc=>⟨_,cell x c (lookup_of_mem_nodup hnames hc)⟩,apart,hnd⟩
 ·rw [<- he]
  exact λ e:fd.code=.none=>by have:=hF.code;rw [e] at this;exact ff this
 ·rw [hcells] at hc
  refine (H8 _ _ _ _ _ hc).elim (λ h=>absurd h zzj) λ h=>⟨newOf c (Nat.le_of_succ_le h),λ e=>?_⟩
  rw [e,hloc] at h;exact Nat.lt_irrefl _ h
 ·obtain ⟨hi,v,hv,rv⟩:=at_p hp
  exact ⟨v,(Abj (xs.take k) vs (λ Z=>none) i x hndk (hxi i x ex hi) ((hkindOf x).trans lx) (hlen.symm▸hi)).trans hv,rv⟩
 ·have hlc:ks.lookup x=some .cell:=lx.elim id λ lx=>(hks x (List.mem_iff_getElem?.mpr ⟨i,ex⟩)).elim (λ h=>nomatch h.symm.trans lx) id
  obtain ⟨c,hc⟩:=Option.isSome_iff_exists.mp (Hn ks (s.heap.objs.size+1) [] (.inl hlc))
  have hc':env.cells.lookup x=some c:=by rw [hcells];exact hc
  refine ⟨c,_,hc',cell x c hc',λ p hp=>?_⟩
  obtain ⟨hi,v,hv,rv⟩:=at_p hp
  exact ⟨v,(Abi (xs.take k) vs (λ Z=>none) i x hndk (hxi i x ex hi) (by rw [hkindOf,hlc];exact λ q=>nomatch q) (hlen.symm▸hi)).trans hv,rv⟩
theorem Aur {a:Addr} {ks:List (Str×NameKind)} {k n:Nat} {xs:List Str} {body:List Stmt} {fd:FuncData} {f:C0} {d:Nat} (hF:A0w B.K a ks k (xs.take k) body fd) (hn:xs.length=k+n) (hnd:xs.Nodup)
  (hks:∀ x∈xs,ks.lookup x=some .local\/ks.lookup x=some .cell) (hdist:(ks.map (·.1)).Nodup) (hb:SSs B d ks xs body f):SFc B (d+1) a k (Ye n f):=λ A s J σ ps vs hR st r hk κ R e hQ=>by
 obtain ⟨oc,od,osl,hl⟩:=hF.at_
 have hlen:vs.length=k:=r.length.trans hk
 have hz:∀ x∈(xs.take k).zip vs,x.1∈xs:=λ x hx=>List.mem_of_mem_take (List.of_mem_zip hx).1
 have hd1:A.depth+1+d+10<recursionLimit:=by rw [Nat.add_assoc A.depth,Nat.add_comm 1];exact hR.1
 refine codeAny_call_cells (Nat.lt_of_le_of_lt (Nat.le_trans (Nat.le_add_right _ _) (Nat.le_add_right _ _)) hR.1) (st.X _ _ hl) rfl st.T.nolimit (codeRec_of st.X hF.code) hF.body (hF.bind vs hlen) hF.closure (λ x hx=>by rw [hF.names];exact (hks x.1 (hz x hx)).imp id λ q=>⟨q,Hn _ _ _ (.inl q)⟩) (λ s1 X=>?_) hF.co hF.gen hF.kind
 obtain ⟨h1,tk,rfl,hkeep⟩:=X.done
 have x0:Nx B Ao J s J σ {s with heap:=h1,toks:=tk}:=.keep st (Ab _ _) tk hkeep
 have hloc:(callEnvC fd s.heap.objs.size a).locals=s.heap.objs.size:=rfl
 have hcells:(callEnvC fd s.heap.objs.size a).cells=cellsFrom (s.heap.objs.size+1) fd.scope.names []:=rfl
 generalize he:callEnvC fd s.heap.objs.size a=env at X hloc hcells
 have hE:=Aou (s:=s) hF hn hnd hks hdist hlen (x0.upL r) he st X.toInCall.ns X.cell X.apart
 have hnew:∀ b,Ck env b->s.heap.objs.size≤b:=λ b q=>As9 hloc hcells q
 have hR':Cc (A.deeper env) d:=⟨hd1,Nat.lt_of_le_of_lt (by show A.units+3+12*d+100≤A.units+12*(d+1)+100;omega) hR.2.1,hR.2.2⟩
 have fin:∀ {s2:Shared} {J2:Aj} {σ2:PS},Nx B (Ck env) J {s with heap:=h1,toks:=tk} J2 σ2 s2->Nx B Ao J s J2 σ2 s2:=λ {s2 J2 σ2} x=>
  ⟨⟨⟨x.g.pre,λ b o e n m=>x.g.keep b o (hkeep b o e) n λ q=>Nat.lt_irrefl _ (Nat.lt_of_lt_of_le (Heap.lt_size e) (hnew b q)),λ b q=>(x.g.new b q).imp id λ q=>by
   cases e:s.heap.get? b with
   | none=>rfl
   | some o=>exact (nomatch (show h1.get? b=none from q).symm.trans (hkeep b o e)),x.g.eta⟩,λ Z Z q=>q.elim⟩,⟨x.m.gens,x.m.os⟩,x.st,st.idOk,Ab _ _⟩
 exact hb (A.deeper env) {s with heap:=h1,toks:=tk} env (Nt n ps) J σ hR' hE x0.st (λ b q=>by
  cases e:B.h₀.get? b with
  | none=>rfl
  | some o=>exact absurd (Heap.lt_size (st.base b o e)) (Nat.not_lt.mpr (hnew b q))) _ _ _ _ e (λ s2 J2 ρ2 σ2 e x Z=>hQ _ s2 J2 _ σ2 e (fin x) Zc) λ v s2 J2 p σ2 e x r=>hQ v s2 J2 p σ2 e (fin x) r
end
end
section
set_option tactic.hygienic true
def Aiy {α:Type} (l:List α) (i:Nat):Option α:=@List.rec α (λ Z=>Nat->Option α) (λ Z=>none) (λ a Z ih i=>@Nat.rec (λ Z=>Option α) (some a) (λ j Z=>ih j) i) l i
theorem Ady {α:Type}:∀ (l:List α) (i:Nat),Aiy l i=l[i]?
 | [],_=>rfl
 | _::_,0=>rfl
 | _::l,i+1=>Ady l i
def Atb {α:Type} (l:List α) (i:Nat) (k:α->Bool):Bool:=@Option.rec _ (λ Z=>Bool) false k (Aiy l i)
theorem Apx {α:Type} {C:Prop} {k:α->Bool}:∀ {l:List α} {i:Nat},Atb l i k=true->(∀ x,l[i]?=some x->k x=true->C)->C
 | [],_,h,_=>ff h
 | a::_,0,h,H=>H a rfl h
 | _::l,i+1,h,H=>Apx (l:=l) (i:=i) h H
def nth {α:Type} (l:List α) (i:Int) (k:α->Bool):Bool:=@Int.rec (λ Z=>List α->(α->Bool)->Bool) (λ n l k=>bC false (Atb l n k) (Nat.ble n Bv)) (λ n l k=>bC false (bC false (Atb l (Nat.sub (Nat.sub (len l) 1) n) k) (Nat.blt n (len l))) (Nat.ble n Bv)) i l k
theorem Ayl {α:Type} {C:Prop} {k:α->Bool} {l:List α}:∀ {i:Int},nth l i k=true->(∀ j x,seqIndex? i l.length=some j->l[j]?=some x->-(2 ^ 63)≤i->i<2 ^ 63->(0≤i/\i.toNat=j)\/(i<0/\-(l.length:Int)≤i/\(i+l.length).toNat=j)->k x=true->C)->C
 | .ofNat n,h,H=>Bs h λ hb h=>Apx h λ x hx h=>by
  have hb:n≤Bv:=zzi hb
  unfold Bv at hb
  have hn:=(List.getElem?_eq_some_iff.mp hx).1
  exact H n x (PySem.seqIndex_of (k:=(n:Int)) (by omega) (by omega)) hx (by simp) (by simp;omega) (.inl ⟨by simp,rfl⟩) h
 | .negSucc n,h,H=>Bs h λ hb h=>Bs h λ h1 h=>Apx h λ x hx h=>by
  have hb:n≤Bv:=zzi hb
  unfold Bv at hb
  rw [By] at h1 hx
  have h1:n<l.length:=zzi h1
  have hx:l[l.length - 1 - n]?=some x:=hx
  exact H (l.length - 1 - n) x (by rw [MeetsSeq.seqIndex_neg (by omega) (by omega)];congr 1;omega) hx (by omega) (by omega) (.inr ⟨by omega,by omega,by omega⟩) h
section
variable {B:Aq} {A:Around} {J:Aj} {σ:PS} {s:Shared} {value slice:Expr} {i:Int} {t:Tok} {Q E:Value->Shared->Prop}
theorem Apb {l:List PV} {a:Addr} {vs:List Value} {k:PV->Bool} (e:nth l i k=true) (ta:IsTup s.heap a vs.toArray) (ra:RepL J s.heap l vs) (hs:∀ o i,subscripted slice false o i=operate [o,i] (getItem o i)) (h:∀ x v,k x=true->Ae J s.heap x v->Q v s):
  wpAny (model B.prog B.w) A (subscriptTail value slice (.ref a) (.int i t)) Q E s:=Ayl e λ j x h1 h2 h3 h4 Z e=>(ra.get h2).elim λ v q=>
 tail_any ta.typeIs PyProof.Rows.slot_tuple_getitem.lookup (PyProof.Rows.getItem_tuple ta h3 h4 (by rw [List.size_toArray,ra.length];exact h1) (by rw [List.getElem?_toArray];exact q.1) (h x v e q.2)) (hs _ _)
theorem Ao9 {l:List PV} {a:Addr} {vs:List Value} {k:PV->Bool} (e:nth l i k=true) (ta:s.heap.IsList a vs.toArray) (ra:RepL J s.heap l vs) (hs:∀ o i,subscripted slice false o i=operate [o,i] (getItem o i)) (h:∀ x v,k x=true->Ae J s.heap x v->Q v s):
  wpAny (model B.prog B.w) A (subscriptTail value slice (.ref a) (.int i t)) Q E s:=Ayl e λ j x h1 h2 h3 h4 hc e=>(ra.get h2).elim λ v q=>by
 have hvl:vs.toArray.size=l.length:=by rw [List.size_toArray,ra.length]
 rcases hc with ⟨h0,rfl⟩|⟨h0,hk,rfl⟩
 ·exact tail_any ta.typeIs PySem.slot_list_getitem.lookup (wpAny_getItem_list (x:=v) ta h0 h4 (by rw [List.getElem?_toArray];exact q.1) (h x v e q.2)) (hs _ _)
 ·exact tail_any ta.typeIs PySem.slot_list_getitem.lookup (wpAny_getItem_list_neg (x:=v) ta h0 (by rw [hvl];exact hk) h3 (by rw [hvl,List.getElem?_toArray];exact q.1) (h x v e q.2)) (hs _ _)
theorem Apa {y:Nat} {t':Tok} {k:Nat->Bool} (e:nth (Ba y) i k=true) (hs:∀ o i,subscripted slice false o i=operate [o,i] (getItem o i)) (h:∀ c v tk,k c=true->Ae J s.heap (.str (Nat.succ c)) v->Q v {s with toks:=tk}):
  wpAny (model B.prog B.w) A (subscriptTail value slice (.str ⟨(Ba y).toArray⟩ t') (.int i t)) Q E s:=Ayl e λ j c h1 h2 h3 h4 Z e=>by
 refine tail_any (typeIs_str s _ _) F.slot_str_getitem.lookup (P.getItem_str (c:=c) ?_ ?_ (h c _ _ e (Ep _ (by rw [Wr (Yc y c (List.mem_of_getElem? h2))])))) (hs _ _)
 ·rw [Bool.or_eq_false_iff,decide_eq_false_iff_not,decide_eq_false_iff_not]
  exact ⟨Int.not_lt.mpr h3,by omega⟩
 ·show (seqIndex? i (Ba y).toArray.size).bind _=_
  rw [List.size_toArray,h1]
  show (Ba y).toArray[j]?=some c
  rw [List.getElem?_toArray];exact h2
end
def Yl (lo:Option Nat):Nat:=lo.getD 0
def hiOf (hi:Option Nat) (n:Nat):Nat:=match hi with
 | none=>n
 | some b=>min b n
def Su (x:Option (Nat×Tok)):Value:=match x with
 | none=>.none
 | some (a,t)=>.int a t
def toI (x:Option Nat):Option Int:=match x with
 | none=>none
 | some a=>some (a:Int)
theorem Ah4 (lo hi:Option Nat) (n:Nat):Builtin.Slice.sliceAdjust (toI lo) (toI hi) 1 (n:Int)=(((min (Yl lo) n:Nat):Int),((hiOf hi n:Nat):Int)):=by
 unfold Builtin.Slice.sliceAdjust Yl hiOf toI
 have h1:¬ ((1:Int)<0):=by omega
 cases lo<;>cases hi<;>simp only [h1,if_false,Option.getD_none,Option.getD_some]
 ·simp
 ·rename_i b
  have h2:¬ ((b:Int)<0):=by omega
  rw [if_neg h2]
  congr 1<;>omega
 ·rename_i a
  have h2:¬ ((a:Int)<0):=by omega
  rw [if_neg h2]
  congr 1;omega
 ·rename_i a b
  have h2:¬ ((a:Int)<0):=by omega
  have h3:¬ ((b:Int)<0):=by omega
  rw [if_neg h2,if_neg h3]
  congr 1<;>omega
theorem Ai4 (a b:Nat):Builtin.Slice.slicePlaces (a:Int) (b:Int) 1=b - a:=by
 unfold Builtin.Slice.slicePlaces
 have h1:(1:Int)>0:=by omega
 simp only [h1,if_true,Int.ediv_one]
 split<;>omega
theorem Aqb (xs:Array Value) (a m:Nat):((List.range m).filterMap λ (k:Nat)=>xs[((a:Int)+(k:Int)*1).toNat]?)=(xs.toList.drop a).take m:=by
 have e:(λ (k:Nat)=>xs[((a:Int)+(k:Int)*1).toNat]?)=λ k=>xs[a+k]?:=by
  funext k
  have:((a:Int)+(k:Int)*1).toNat=a+k:=by omega
  rw [this]
 rw [e]
 have:=pick_run xs a m
 rw [List.filterMap_map] at this
 exact this
section
variable {prog:Program} {w:World} {A:Around} {E:Value->Shared->Prop} {s:Shared}
theorem Pm {x:Option (Nat×Tok)} {Q:Option Int->Shared->Prop} (h:Q (toI (x.map (·.1))) s):wpAny (model prog w) A (Builtin.Slice.slicePartIndex (Su x)) Q E s:=by
 cases x with
 | none=>exact PyProof.Rows.slicePart_none h
 | some p=>exact PyProof.Rows.slicePart_int h
theorem T8 {sl:Addr} {lo hi:Option (Nat×Tok)} {n:Nat} {Q:Int×Int×Nat->Shared->Prop} (hs:s.heap.IsSliceOf sl (Su lo) (Su hi) .none)
  (h:Q (((min (Yl (lo.map (·.1))) n:Nat):Int),1,hiOf (hi.map (·.1)) n - min (Yl (lo.map (·.1))) n) s):
  wpAny (model prog w) A (Builtin.Slice.sliceApplied (.ref sl) (pure (n:Int))) Q E s:=by
 obtain ⟨os,hos,hcs,hds⟩:=id hs
 unfold Builtin.Slice.sliceApplied Builtin.Slice.sliceFields
 refine zza (zza (wpAny_field hos hds (x:=Su lo) rfl (zza (wpAny_field hos hds (x:=Su hi) rfl (zza (wpAny_field hos hds (x:=.none) rfl (zzb ?_)))))))
 refine zza (PyProof.Rows.slicePart_none ?_)
 show wpAny _ _ (if ((1:Int)==0)=true then _ else _) _ _ s
 rw [if_neg (by decide)]
 refine zza (Pm (zza (Pm (zza (zzb ?_)))))
 show wpAny _ _ (match Builtin.Slice.sliceAdjust (toI (lo.map (·.1))) (toI (hi.map (·.1))) 1 (n:Int) with|(lo,hi)=>pure (lo,(1:Int),Builtin.Slice.slicePlaces lo hi 1)) _ _ s
 rw [Ah4]
 show wpAny _ _ (pure (((min (Yl (lo.map (·.1))) n:Nat):Int),(1:Int),Builtin.Slice.slicePlaces ((min (Yl (lo.map (·.1))) n:Nat):Int) ((hiOf (hi.map (·.1)) n:Nat):Int) 1)) _ _ s
 rw [Ai4]
 exact zzb h
theorem Ob {t sl:Addr} {items:Array Value} {lo hi:Option (Nat×Tok)} {Q:Value->Shared->Prop} (ht:IsTup s.heap t items) (hs:s.heap.IsSliceOf sl (Su lo) (Su hi) .none)
  (h:∀ a h',(∀ b o,s.heap.get? b=some o->h'.get? b=some o)->(a=t\/(s.heap.get? a=none/\NoD h' a))->IsTup h' a ((items.toList.drop (Yl (lo.map (·.1)))).take (hiOf (hi.map (·.1)) items.size - Yl (lo.map (·.1)))).toArray->Q (.ref a) {s with heap:=h'})
  (hsz:items.size≤sizeLine):wpAny (model prog w) A (getItem (.ref t) (.ref sl)) Q E s:=by
 obtain ⟨os,hos,hcs,hds⟩:=id hs
 have hTs:s.TypeIs (.ref sl) "slice":=⟨os,hos,hcs⟩
 have hhi:hiOf (hi.map (·.1)) items.size≤items.size:=by
  unfold hiOf;split
  ·exact Nat.le_refl _
  ·exact Nat.min_le_right _ _
 generalize hlo:Yl (lo.map (·.1))=a at *
 generalize hhi':hiOf (hi.map (·.1)) items.size=b at *
 have hpick:((items.toList.drop (min a items.size)).take (b - min a items.size))=(items.toList.drop a).take (b - a):=by
  by_cases hc:a≤items.size
  ·rw [Nat.min_eq_left hc]
  ·have h1:items.toList.drop a=[]:=List.drop_eq_nil_of_le (by rw [Array.length_toList];omega)
   rw [h1,Nat.min_eq_right (by omega)]
   have:b - items.size=0:=by omega
   rw [this];simp
 unfold getItem
 try with_reducible refine zzg ?_
 first|refine zza (zzb ?_)|skip
 refine zza (wpAny_sequenceKey ht.typeIs (by decide) ?_)
 refine zza (wpAny_callSpecial?_slot (name:=Str.ofString "__getitem__") ht.typeIs PyProof.Rows.slot_tuple_getitem
  (wpAny_call_entry PyProof.Rows.slot_tuple_getitem ht.typeIs PyProof.Rows.entry_tuple_getitem ?_ (PyProof.Rows.args_tuple_getitem _ _)))
 show wpAny _ _ (Builtin.Tuple.tupleItemsOf (.ref t) >>= _) _ _ s
 refine zza (PyProof.Rows.tupleItemsOf_ ht ?_)
 refine zza (wpAny_typeOf hTs ?_)
 rw [if_pos (by decide)]
 refine zza (T8 hs ?_)
 rw [hlo,hhi']
 show wpAny _ _ (if (((min a items.size:Nat):Int)==0&&(1:Int)==1&&(b - min a items.size)==items.size)=true then _ else _) _ _ s
 split
 ·rename_i hc
  simp only [Bool.and_eq_true,beq_iff_eq] at hc
  have e1:min a items.size=0:=by omega
  have e2:b=items.size:=by omega
  have e3:(items.toList.drop a).take (b - a)=items.toList:=by
   rw [<- hpick,e1,e2]
   simp only [List.drop_zero,Nat.sub_zero]
   exact List.take_of_length_le (by rw [Array.length_toList];exact Nat.le_refl _)
  have hq:=h t s.heap (λ Z Z e=>e) (.inl rfl) (by rw [e3];exact ht)
  refine zza (m:=Builtin.Tuple.tupleIsExact (.ref t)) ?_
  unfold Builtin.Tuple.tupleIsExact
  refine zza (wpAny_typeOf ht.typeIs (zzb ?_))
  rw [if_pos (by decide)]
  exact zza (wpAny_rule (zzb ⟨_,rfl,zzb hq⟩))
 ·rw [Aqb,hpick]
  have ht':IsTup (s.heap.push {cls:=.type "tuple",data:=.seq ((items.toList.drop a).take (b - a)).toArray}) s.heap.objs.size ((items.toList.drop a).take (b - a)).toArray:=⟨_,zzd _ rfl,rfl,0,rfl⟩
  have hq:=h s.heap.objs.size _ (Aw _ _) (.inr ⟨Heap.get?_none_of_le (Nat.le_refl _),_,zzd _ rfl,rfl⟩) ht'
  have hdrop:sizeOk (.seq ((items.toList.drop a).take (b - a)).toArray):=by
   show ((items.toList.drop a).take (b - a)).toArray.size≤sizeLine
   rw [List.size_toArray,List.length_take,List.length_drop,Array.length_toList]
   omega
  first
   | exact zza (m:=Builtin.Tuple.tupleExact _) (wpAny_newObj_type (zzb ⟨_,rfl,zzb hq⟩) hdrop)
   | exact zza (m:=Builtin.Tuple.tupleExact _) (wpAny_newObj_type (zza (zzb (zzb ⟨_,rfl,zzb hq⟩))) hdrop)
   | exact zza (zza (m:=Builtin.Tuple.tupleExact _) (wpAny_newObj_type (zzb (zzb ⟨_,rfl,zzb hq⟩)) hdrop))
   | exact zza (zza (m:=Builtin.Tuple.tupleExact _) (wpAny_newObj_type (zzb ⟨_,rfl,zzb hq⟩) hdrop))
end
section
variable {s:Shared}
theorem Ann (x:List Nat) (t:Tok) (u:Tok) (Q:Value->Shared->Prop) (h:∀ tk t',Q (.str ⟨(x.take 1).toArray⟩ t') {s with toks:=tk}):(sliceMade ⟨x.toArray⟩ t none (some (1,u)) none).post Q s:=by
 cases x with
 | nil=>
  have e:sliceMade ⟨([]:List Nat).toArray⟩ t none (some (1,u)) none=.val (.str ⟨([]:List Nat).toArray⟩ t):=by rfl
  rw [e]
  exact h s.toks t
 | cons c r=>
  have e0:slicePicked ⟨(c::r).toArray⟩ none (some (1,u)) none=[0]:=by
   unfold slicePicked Builtin.Str.strSliceIndices
   simp only [Option.map_none,Option.map_some,Option.getD_none]
   have:(Str.mk (c::r).toArray).length=r.length+1:=by show (c::r).toArray.size=_;simp
   rw [this]
   have h1:(if (1:Int)>0 then max 0 (min (if (1:Int)<0 then 1+((r.length+1:Nat):Int) else 1) ((r.length+1:Nat):Int)) else max (-1) (min (if (1:Int)<0 then 1+((r.length+1:Nat):Int) else 1) (((r.length+1:Nat):Int) - 1)))=1:=by
    rw [if_pos (by omega),if_neg (by omega)];omega
   rw [h1]
   rfl
  unfold sliceMade
  rw [e0]
  by_cases hr:r=[]
  ·subst hr
   rw [if_pos (by rfl)]
   exact h s.toks t
  ·rw [if_neg (by
    simp only [Option.map_none,Option.getD_none,List.length_cons,List.length_nil,Bool.and_eq_true,beq_iff_eq,not_and]
    intro _
    show ¬ (0+1=(c::r).toArray.size)
    simp
    intro e;exact hr e)]
   refine ⟨?_,?_⟩
   ·show (List.filterMap _ [0]).toArray.size≤sizeLine
    simp
    decide
   ·have:((Str.mk (c::r).toArray).cps[0]?)=some c:=by simp
    simp only [List.filterMap_cons,this,List.filterMap_nil]
    exact h (s.toks+1) s.toks
end
theorem Ace {M:Model} {A:Around} {E:Value->Shared->Prop} {s:Shared} {env:Env} {value:Expr} {lower upper:Option Expr} {p pos:Pos} {Q:Value->Shared->Prop}
  (h:wpAny M A (eval value env) (λ o s₁=>wpAny M A (eval (.Slice lower upper none p) env) (λ i s₂=>(∃ T id,s₂.TypeIs o T/\typeLookup (.type T) "__getitem__"=pure (some (.builtin id)))/\wpAny M A (getItem o i) (λ r s₃=>wpAny M A (letTemporaryGo value o r >>= λ Z=>pure r) Q E s₃) E s₂) E s₁) E s):
  wpAny M A (eval (.Subscript value (.Slice lower upper none p) pos) env) Q E s:=by
 rw [eval_Subscript]
 refine zza (wpAny_mono h (λ o s₁ h₁=>zza (zzg (wpAny_mono h₁ (λ i s₂ h₂=>zza (wpAny_standAt ?_)) λ Z Z x=>x)))
  λ Z Z x=>x)
 obtain ⟨⟨T,id,hT,hl⟩,hg⟩:=h₂
 have fin:wpAny M A (operate [i,o] (getItem o i)) (λ r s₃=>wpAny M A (letTemporaryGo value o r >>= λ Z=>pure r) Q E s₃) E s₂:=wpAny_operating hg
 first
  | (refine zza ?_
     rw [getitemInPython_of_ne hT.not_modules]
     refine zza (wpAny_specialOf hT hl ?_)
     first
      | exact zzb (zza fin)
      | exact zza (zzb (zza fin))
      | exact zza fin)
  | (refine zza (wpAny_specialOf hT hl ?_)
     first
      | exact zza (zzb (zza fin))
      | exact zza fin)
section
variable {B:Aq} {A:Around} {J:Aj} {σ:PS} {s:Shared}
theorem RepL.drop {h:Heap}:∀ {l:List PV} {vs:List Value} (k:Nat),RepL J h l vs->RepL J h (l.drop k) (vs.drop k)
 | l,vs,0,r=>r
 | [],vs,k+1,r=>C8 (P:=λ vs=>RepL J h [] (vs.drop (k+1))) r Cx
 | p::l,vs,k+1,r=>A8 (P:=λ vs=>RepL J h (l.drop k) (vs.drop (k+1))) r λ v w Z r=>r.drop k
theorem RepL.take {h:Heap}:∀ {l:List PV} {vs:List Value} (k:Nat),RepL J h l vs->RepL J h (l.take k) (vs.take k)
 | l,vs,0,r=>Cx
 | [],vs,k+1,r=>C8 (P:=λ vs=>RepL J h [] (vs.take (k+1))) r Cx
 | p::l,vs,k+1,r=>A8 (P:=λ vs=>RepL J h (p::l.take k) (vs.take (k+1))) r λ v w a r=>Bd a (r.take k)
def Afr {α:Type} (l:List α) (i:Nat) (k:List α->Bool):Bool:=@List.rec α (λ Z=>Nat->Bool) (λ Z=>k []) (λ a r ih i=>@Nat.rec (λ Z=>Bool) (k (a::r)) (λ j Z=>ih j) i) l i
theorem Aoq {α:Type} {k:List α->Bool}:∀ (l:List α) (i:Nat),Afr l i k=k (l.drop i)
 | [],i=>congrArg k List.drop_nil.symm
 | _::_,0=>rfl
 | _::l,i+1=>Aoq l i
def Ag9 {α:Type} (l:List α) (i:Nat) (k:List α->Bool):Bool:=@List.rec α (λ Z=>Nat->(List α->Bool)->Bool) (λ Z k=>k []) (λ a Z ih i k=>@Nat.rec (λ Z=>Bool) (k []) (λ j Z=>ih j λ r=>k (a::r)) i) l i k
theorem Y9 {α:Type}:∀ (l:List α) (i:Nat) (k:List α->Bool),Ag9 l i k=k (l.take i)
 | [],i,k=>congrArg k List.take_nil.symm
 | _::_,0,_=>rfl
 | a::l,i+1,k=>Y9 l i λ r=>k (a::r)
end
end
section
section
variable {B:Aq} {A:Around} {J:Aj} {σ:PS} {s:Shared}
def Axi (s:Shared) (u:Value):Prop:=∃ T id,s.TypeIs u T/\typeLookup (.type T) "__getitem__"=pure (some (.builtin id))
theorem Ar6 (l:List Value) (a:Nat):(l.drop a).take (l.length - a)=l.drop a:=List.take_of_length_le (Nat.le_of_eq List.length_drop)
theorem Ax0 (l:List Value) (b:Nat):l.take (min b l.length)=l.take b:=by
 rcases Nat.le_total b l.length with h|h
 ·rw [Nat.min_eq_left h]
 ·rw [Nat.min_eq_right h,List.take_of_length_le (Nat.le_refl _),List.take_of_length_le h]
theorem Acb {a sl:Addr} {l:List PV} {vs:List Value} {lo hi:Option (Nat×Tok)} {r:List PV} {ws:List Value} {Q E:Value->Shared->Prop} (st:St B J σ s.heap) (na:¬ J.has a) (da:NoD s.heap a) (ta:IsTup s.heap a vs.toArray) (ra:RepL J s.heap l vs) (hz:l.length≤Bv)
  (hs:s.heap.IsSliceOf sl (Su lo) (Su hi) .none) (hc:(vs.drop (Yl (lo.map (·.1)))).take (hiOf (hi.map (·.1)) vs.length - Yl (lo.map (·.1)))=ws) (rr:RepL J s.heap r ws)
  (h:∀ v s',Nx B Ao J s J σ s'->Ae J s'.heap (.tup r) v->Q v s'):Axi s (.ref a)/\wpAny (model B.prog B.w) A (getItem (.ref a) (.ref sl)) Q E s:=by
 subst hc
 refine ⟨⟨"tuple",_,ta.typeIs,PyProof.Rows.slot_tuple_getitem.lookup⟩,Ob ta hs (λ a' h' hk ha' ht'=>?_) (by rw [List.size_toArray,ra.length];exact Nat.le_trans hz B0)⟩
 have x:Nx B Ao J s J σ {s with heap:=h'}:=.keep st (Ab _ _) s.toks hk
 refine h _ _ x (Ek ?_ ?_ (by rw [List.size_toArray] at ht';exact ht') (x.upL rr))
 ·rcases ha' with rfl|⟨ha',nd⟩
  ·exact na
  ·exact λ q=>(st.idOk a' q).elim λ o e=>ns (ha'.symm.trans e.1)
 ·rcases ha' with rfl|⟨ha',nd⟩
  ·exact da.elim λ o e=>⟨o,hk _ _ e.1,e.2⟩
  ·exact nd
theorem Aca {a sl:Addr} {l:List PV} {vs:List Value} {n:Nat} {t:Tok} {Q E:Value->Shared->Prop} (st:St B J σ s.heap) (ta:s.heap.IsList a vs.toArray) (ra:RepL J s.heap l vs) (hz:l.length≤Bv) (hs:s.heap.IsSliceOf sl .none (.int n t) .none)
  (h:∀ v s',Nx B Ao J s J σ s'->Ae J s'.heap (.lst (l.take n)) v->Q v s'):Axi s (.ref a)/\wpAny (model B.prog B.w) A (getItem (.ref a) (.ref sl)) Q E s:=by
 refine ⟨⟨"list",_,ta.typeIs,PySem.slot_list_getitem.lookup⟩,?_⟩
 have x:=Nx.keep st (Ab _ _) s.toks (Aw s.heap {cls:=.type "list",data:=.seq (slicePick vs.toArray none (some (n:Int)) none)})
 exact wpAny_getItem_list_slice (vl:=.none) (vu:=.int n t) (vs:=.none) (lo:=none) (hi:=some (n:Int)) (st:=none) ta hs .none (.int _ _) .none (λ q=>nomatch q) (h _ _ x (Hv (B5 st.idOk) ⟨_,Heap.get?_push_size _ rfl,rfl,0,congrArg (λ x=>PySem.Data.seq x 0) (slicePick_upto' _ _)⟩ (x.upL (ra.take n)))) (by rw [List.size_toArray,ra.length];exact Nat.le_trans hz B0)
end
section
variable {B:Aq} {d:Nat} {ks:List (Str×NameKind)} {xs:List Str}
def Ip (k:Nat->Bool) (p:PV):Bool:=Eu (λ i=>@Int.rec (λ Z=>Bool) (λ n=>bC false (k n) (Nat.ble n Bv)) F1 i) p
@[elab_as_elim] theorem Ahh {J:Aj} {h:Heap} {v:Value} {p:PV} {P:Value->Prop} {k:Nat->Bool} (e:Ip k p=true) (r:Ae J h p v) (H:∀ (n:Nat) t,n≤Bv->k n=true->P (.int n t)):P v:=by
 obtain ⟨i,rfl,e⟩:=S6 e
 refine Eh r λ t=>?_
 cases i with
 | negSucc n=>exact ff e
 | ofNat n=>exact Bs e λ h e=>H n t (zzi h) e
def Avu (f g:EF):EF:=λ ρ σ k=>f ρ σ λ p σ=>g ρ σ λ q σ=>Ip (λ n=>Lo (λ l=>bC false (Afr l n λ l=>k (.tup l) σ) (An l)) p) q
theorem Auc {value g:Expr} {p pos:Pos} {f h:EF} (hf:SE B d ks xs value f) (hg:SE B d ks xs g h):SE B d ks xs (.Subscript value (.Slice (some g) none none p) pos) (Avu f h):=λ A s env ρ J σ hR hE hS k Q E e hQ=>by
 refine Ace (hf A s env ρ J σ hR hE hS _ _ E e λ u s1 J1 x σ1 e x1 r1=>wpAny_Slice ?_)
 rw [evalPart_some]
 refine hg A s1 env ρ J1 σ1 hR (hE.up x1) x1.st _ _ E e λ v s2 J2 q σ2 e x2 r2=>?_
 refine Ahh (k:=λ n=>Lo (λ l=>bC false (Afr l n λ l=>k (.tup l) σ2) (An l)) x) e r2 λ n t hn e=>?_
 rw [evalPart_none]
 refine zzb (zzb ?_)
 have y:=Nx.keep x2.st (Ab _ _) s2.toks (Aw s2.heap {cls:=.type "slice",data:=.fields #[.int n t,.none,.none]})
 exact Aj0 (k:=λ l=>bC false (Afr l n λ l=>k (.tup l) σ2) (An l)) e (y.up (x2.up r1)) λ l a vs e na da ta ra=>Bs e λ hz e=>
  Acb (lo:=some (n,t)) (hi:=none) y.st na da ta ra (Ap hz) ⟨_,zzd _ rfl,rfl,rfl⟩ (Ar6 vs n) (ra.drop n) λ w s3 z r3=>zza (wpAny_letTemporaryGo (zzb (hQ w _ J2 _ σ2 ((Aoq l n).symm.trans e) (x1.trans (x2.trans (y.trans z))) r3)))
def Ahe (n:Nat) (k:PV->Bool) (p:PV) (σ:PS):Bool:=vC false F1 F1 (λ x=>bC false (k (.str (Aqh x))) (Nat.beq n 1)) (λ l=>bC false (Ag9 l n λ l=>k (.tup l)) (An l)) (λ l=>bC false (Ag9 l n λ l=>k (.lst l)) (An l)) F2 (λ i=>Qm i σ λ l=>bC false (Ag9 l n λ l=>k (.lst l)) (An l)) F1 p
theorem Au7 {A:Around} {J:Aj} {σ:PS} {s:Shared} {n:Nat} {t:Tok} {sl:Addr} {p:PV} {u:Value} {k:PV->Bool} {Q E:Value->Shared->Prop} (e:Ahe n k p σ=true) (st:St B J σ s.heap) (r:Ae J s.heap p u) (hsl:s.heap.IsSliceOf sl .none (.int n t) .none)
  (h:∀ w s' q,k q=true->Nx B Ao J s J σ s'->Ae J s'.heap q w->Q w s'):Axi s u/\wpAny (model B.prog B.w) A (getItem u (.ref sl)) Q E s:=by
 cases p with
 | str c=>
  refine Bs e λ h1 e=>?_
  cases zzh h1
  exact Ei r λ t'=>⟨⟨"str",_,typeIs_str _ _ _,F.slot_str_getitem.lookup⟩,wpAny_getItem_str_slice (l:=none) (u:=some (1,t)) (st:=none) hsl rfl (Ann (Ba c) t' t _ λ tk t2=>h _ _ _ e (Nx.tok st (Ab _ _) tk) (Ep _ (by rw [Aol])))⟩
 | tup l=>exact Bs e λ hz e=>Cw r λ a vs na da ta ra=>Acb (lo:=none) (hi:=some (n,t)) st na da ta ra (Ap hz) hsl (Ax0 vs n) (ra.take n) λ w s3 z r3=>h w s3 _ ((Y9 l n _).symm.trans e) z r3
 | lst l=>exact Bs e λ hz e=>Mu r λ a vs na ta ra=>Aca st ta ra (Ap hz) hsl λ w s3 z r3=>h w s3 _ ((Y9 l n _).symm.trans e) z r3
 | obj i=>exact F7 r λ a ha=>Cp (k:=λ l=>bC false (Ag9 l n λ l=>k (.lst l)) (An l)) e st ha λ l o vs m e Z ho hc Z Z hd ra=>Bs e λ hz e=>Aca st ⟨o,ho,hc,m,hd⟩ ra (Ap hz) hsl λ w s3 z r3=>h w s3 _ ((Y9 l n _).symm.trans e) z r3
 | _=>exact ff e
def Avz (f g:EF):EF:=λ ρ σ k=>f ρ σ λ p σ=>g ρ σ λ q σ=>Ip (λ n=>Ahe n (λ p=>k p σ) p σ) q
theorem Auk {value g:Expr} {p pos:Pos} {f h:EF} (hf:SE B d ks xs value f) (hg:SE B d ks xs g h):SE B d ks xs (.Subscript value (.Slice none (some g) none p) pos) (Avz f h):=λ A s env ρ J σ hR hE hS k Q E e hQ=>by
 refine Ace (hf A s env ρ J σ hR hE hS _ _ E e λ u s1 J1 x σ1 e x1 r1=>wpAny_Slice ?_)
 rw [evalPart_none,evalPart_some]
 refine zzb (hg A s1 env ρ J1 σ1 hR (hE.up x1) x1.st _ _ E e λ v s2 J2 q σ2 e x2 r2=>?_)
 refine Ahh (k:=λ n=>Ahe n (λ p=>k p σ2) x σ2) e r2 λ n t hn e=>zzb ?_
 have y:=Nx.keep x2.st (Ab _ _) s2.toks (Aw s2.heap {cls:=.type "slice",data:=.fields #[.none,.int n t,.none]})
 exact Au7 e y.st (y.up (x2.up r1)) ⟨_,zzd _ rfl,rfl,rfl⟩ λ w s3 q e z r3=>zza (wpAny_letTemporaryGo (zzb (hQ w _ J2 _ σ2 e (x1.trans (x2.trans (y.trans z))) r3)))
theorem Bo {M:Model} {A:Around} {E:Value->Shared->Prop} {s:Shared} {f:Value} {args:List (Bool×Sem Value)} {Q:Args->Shared->Prop} (ha:args.any (·.1)=false) (h:wpAny M A (spliced args) (λ vs s'=>Q ⟨vs,[]⟩ s') E s):wpAny M A (evalArgs f true args []) Q E s:=by
 cases args with
 | nil=>exact zza (wpAny_mono h (λ vs s' h'=>zzg (zza (zzb (zza (zzb (zzb h')))))) λ Z Z x=>x)
 | cons x rest=>
  obtain ⟨b,x⟩:=x
  rw [List.any_cons,Bool.or_eq_false_iff] at ha
  cases (show b=false from ha.1)
  exact evalArgs_plain h
theorem A9 (pos:Pos) (l:List (Bool×Sem Value)):(backTo pos l).any (·.1)=l.any (·.1):=List.any_map
def Abq (F:Fn) (l:LF):EF:=λ ρ σ k=>l ρ σ λ ps σ=>F ps σ k
theorem At5 {x:Str} {np pos:Pos} {args:List Expr} {a:Addr} {oc:Value} {od:Option Addr} {fd:FuncData} {osl:Array (Option Value)} {F:Fn} {l:LF}
  (hx:nsIn B.K mainGlobals x=some (some (.ref a))) (hk:ks.lookup x=some .globalImplicit) (hd:(x==("__debug__":Str))=false) (hf:B.K.lookup a=some ⟨oc,od,.func fd,osl⟩)
  (hF:SF B d a args.length F) (ha:SEL B d ks xs args l):SE B d ks xs (.Call (.Name x np) args [] pos) (Abq F l):=λ A s env ρ J σ hR hE hS k Q E e hQ=>by
 obtain ⟨h1,_,h3⟩:=ha A s env ρ J σ pos hR hE hS
 show wpAny _ _ (do callWith pos (<- eval (.Name x np) env) [] (backTo pos (starEach args env)) []) _ _ _
 exact wpAny_bind (Name_function_global hE.kind (Cq hE hk) (loadGlobal_global (by rw [hE.globals];exact hS.T.g) (mg_of B.X B.T.g hx) (callWith_function (Bo ((A9 _ _).trans h1) (h3 _ _ E e λ vs s1 J1 ps σ1 e x1 r1=>⟨⟨x1.st.X _ _ hf,rfl⟩,
  hF A s1 J1 σ1 ps vs hR x1.st r1.1 r1.2 _ Q E e λ v s2 J2 p σ2 e x2 r2=>hQ v s2 J2 p σ2 e (x1.trans x2) r2⟩)))) hd)
def SBi (B:Aq) (id:String) (F:Fn):Prop:=
 ∀ (A:Around) (s:Shared) (J:Aj) (σ:PS) (ps:List PV) (vs:List Value),Cc A 0->St B J σ s.heap->RepL J s.heap ps vs->Aal B A Ao J σ s (call (.builtin id) vs) (F ps) Agx
theorem A2y {x:Str} {np pos:Pos} {args:List Expr} {id:String} {F:Fn} {l:LF}
  (hx:nsIn B.K mainGlobals x=some none) (hk:ks.lookup x=some .globalImplicit) (hd:(x==("__debug__":Str))=false) (hb:bootBuiltins x=some (.builtin id)) (hn:x≠"__name__")
  (hF:SBi B id F) (ha:SEL B d ks xs args l):SE B d ks xs (.Call (.Name x np) args [] pos) (Abq F l):=λ A s env ρ J σ hR hE hS k Q E e hQ=>by
 obtain ⟨h1,_,h3⟩:=ha A s env ρ J σ pos hR hE hS
 show wpAny _ _ (do callWith pos (<- eval (.Name x np) env) [] (backTo pos (starEach args env)) []) _ _ _
 exact wpAny_bind (Name_function_global hE.kind (Cq hE hk) (loadGlobal_builtin (by rw [hE.globals];exact hS.T.g) (mg_none_of B.X B.T.g hx) (by rw [hE.builtins];exact hS.T.b) ((B.T.builtins x hn).trans hb) (callWith_builtin ((A9 _ _).trans h1) (Bo ((A9 _ _).trans h1) (h3 _ _ E e λ vs s1 J1 ps σ1 e x1 r1=>
  hF A s1 J1 σ1 ps vs (hR.mono (Nat.zero_le _)) x1.st r1.1 _ Q E e λ v s2 J2 p σ2 e x2 r2=>hQ v s2 J2 p σ2 e (x1.trans x2) r2)))) hd)
theorem RepL.one {J:Aj} {h:Heap} {p:PV} {vs:List Value} {C:Prop} (r:RepL J h [p] vs) (H:∀ v,vs=[v]->Ae J h p v->C):C:=A8 (P:=λ vs'=>vs=vs'->C) r (λ v us a b e=>C8 (P:=λ us=>vs=v::us->C) b (λ e=>H v e a) e) rfl
theorem RepL.two {J:Aj} {h:Heap} {p q:PV} {vs:List Value} {C:Prop} (r:RepL J h [p,q] vs) (H:∀ v w,vs=[v,w]->Ae J h p v->Ae J h q w->C):C:=A8 (P:=λ vs'=>vs=vs'->C) r (λ v us a b e=>b.one λ w e' c=>H v w (e.trans (e'▸rfl)) a c) rfl
theorem As3 {n:Nat} (h:n≤Bv):(n:Int)<2 ^ 63:=Int.lt_of_le_of_lt (Int.ofNat_le.mpr h) (by decide)
def Amy (l:List PV) (k:PV->Bool):Bool:=bC false (nF (λ n=>k (.int (Int.ofNat n))) (len l)) (An l)
theorem Awa {C:Prop} {l:List PV} {k:PV->Bool} (e:Amy l k=true) (H:l.length≤Bv->k (.int (l.length:Int))=true->C):C:=Bs e λ h e=>H (Ap h) (By l▸(nF_ _ _).symm.trans e)
def Hs:Fn:=λ ps σ k=>on1 ps λ p=>vC false F1 F1 F1 (λ l=>Amy l λ p=>k p σ) (λ l=>Amy l λ p=>k p σ) F2 (λ i=>Qm i σ λ l=>Amy l λ p=>k p σ) F1 p
theorem Atw:SBi B "len" Hs:=λ A s J σ ps vs hR st r k Q E e hQ=>Oc e λ p hp e=>by
 subst hp
 refine r.one λ v hv rv=>?_
 subst hv
 have key:∀ {a:Addr} {l:List PV} {vs:List Value},Amy l (λ p=>k p σ)=true->s.heap.IsList a vs.toArray->RepL J s.heap l vs->wpAny (model B.prog B.w) A (call (.builtin "len") [.ref a]) Q E s:=λ {a l vs} e t r=>Awa e λ hz e=>
  call_len_list t (by rw [List.size_toArray,r.length];exact As3 hz) (hQ _ _ J _ σ e (.tok st (Ab _ _) _) (by rw [List.size_toArray,r.length];exact C2 _ _))
 cases p with
 | tup l=>exact Awa (k:=λ p=>k p σ) e λ hz e=>Cw rv λ a us Z Z t r=>PyProof.Rows.len_tuple t (by rw [List.size_toArray,r.length];exact As3 hz) (hQ _ _ J _ σ e (.tok st (Ab _ _) _) (by rw [List.size_toArray,r.length];exact C2 _ _))
 | lst l=>exact Mu rv λ a us Z t r=>key e t r
 | obj i=>exact F7 rv λ a ha=>Cp (k:=λ l=>Amy l λ p=>k p σ) e st ha λ l o us m e Z ho hc Z Z hd r=>key e ⟨o,ho,hc,m,hd⟩ r
 | _=>exact ff e
end
end
section
theorem Nx.set {B:Aq} {J:Aj} {σ:PS} {s:Shared} {h':Heap} {i:Nat} {a:Addr} {po:PO} {o':Obj} {t':TS} (st:St B J σ s.heap) (ea:J.l[i]?=some a) (tk:Nat)
  (hs:Heap.SameBut a s.heap h') (ho:h'.get? a=some o') (hp:Put σ.t t' i po) (hr:Ef B.w J s.heap po o'):Nx B Ao J s J ⟨σ.n,t'⟩ {s with heap:=h',toks:=tk}:=by
 have g:Ch Ao J J s.heap h':=⟨⟨List.prefix_refl _,λ b o e nb Z=>(hs.2 b λ q=>nb (q▸List.mem_iff_getElem?.mpr ⟨i,ea⟩)).trans e,λ Z q=>.inl q,rfl⟩,λ Z Z q=>q.elim⟩
 refine ⟨g,⟨rfl,rfl⟩,⟨λ b o e=>(hs.2 b λ q=>?_).trans (st.base b o e),st.fresh,st.low,st.nodup,st.len,λ j b ej=>?_,λ b q=>⟨(st.hid b q).1,(st.hid b q).2.elim λ o e=>⟨o,(hs.2 b λ q'=>(st.hid b q).1 (q'▸List.mem_iff_getElem?.mpr ⟨i,ea⟩)).trans e.1,e.2⟩⟩⟩,st.idOk,Ab _ _⟩
 ·subst q
  exact nomatch e.symm.trans (st.fresh b (Aj.at ea))
 ·by_cases hj:j=i
  ·subst hj
   cases ea.symm.trans ej
   exact ⟨o',ho,hp.1.symm▸hr.grow0 g.toGrow0 (Ab _ _) st.idOk⟩
  ·obtain ⟨o1,e2,r⟩:=st.objs j b ej
   have hb:b≠a:=λ q=>by
    obtain ⟨h1,e1⟩:=List.getElem?_eq_some_iff.mp ea
    obtain ⟨h2,e3⟩:=List.getElem?_eq_some_iff.mp ej
    exact hj ((List.getElem_inj st.nodup).mp (e3.trans (q.trans e1.symm)))
   exact ⟨o1,(hs.2 b hb).trans e2,(hp.2 j hj).symm▸r.grow0 g.toGrow0 (Ab _ _) st.idOk⟩
theorem Bm {o:Obj} {es:List DictEntry} {n:Nat} (hc:o.ExactDict) (hd:o.data=.dict es.toArray n):o=dictOf es n:=by
 obtain ⟨c,d,dt,sl⟩:=o
 obtain ⟨h1,h2,h3⟩:=hc
 cases h1;cases h2;cases h3;cases hd
 rfl
def Asm (x:Nat):Bool:=Nat.beq x 0x74000330001b4000ec00073
def aOk (x C:Nat):Bool:=bC true (Nat.ble C 700) (Asm x)
def Axo (K:Frag) (C:Nat) (x:Str):Bool:=plainGet K C x&&(hasDictIn K C&&(findIn K (.ref C) x==some none))
def H4 (K:Frag) (nm:Str) (x:Nat):Bool:=D3.all λ C=>!aOk x C||Axo K C nm
def A24 (K:Frag) (C:Nat):Bool:=(findIn K (.ref C) "__setattr__"==some (some (.builtin "object.__setattr__")))&&plainOver K C
def Y4 (K:Frag):Bool:=D3.all (A24 K)
theorem b2 {a b:Bool} (h:(a&&b)=true):a=true/\b=true:=Bool.and_eq_true_iff.mp h
theorem Akf {K:Frag} {C n:Nat} {x:Str} (h:H4 K x n=true) (hC:C∈D3) (ha:aOk n C=true):plainGet K C x=true/\hasDictIn K C=true/\findIn K (.ref C) x=some none:=by
 have h:=List.all_eq_true.mp h C hC
 rw [ha] at h
 exact ⟨(b2 h).1,(b2 (b2 h).2).1,eq_of_beq (b2 (b2 h).2).2⟩
theorem Azy {K:Frag} {C:Nat} (h:Y4 K=true) (hC:C∈D3):findIn K (.ref C) "__setattr__"=some (some (.builtin "object.__setattr__"))/\plainOver K C=true:=by
 have h:=List.all_eq_true.mp h C hC
 exact ⟨eq_of_beq (b2 h).1,(b2 h).2⟩
theorem Ai8 {J:Aj} {h:Heap} {p:PV} {v:Value} (r:Ae J h p v):handedIn v=true:=by
 cases p with
 | none=>cases (r:v=.none);rfl
 | bool b=>cases (r:v=.bool b);rfl
 | int i=>exact Eh r λ Z=>rfl
 | str i=>exact Ei r λ Z=>rfl
 | tup l=>exact Cw r λ Z Z Z Z Z Z=>rfl
 | lst l=>exact Mu r λ Z Z Z Z Z=>rfl
 | inst C d=>exact Y2 r λ Z Z Z Z Z=>rfl
 | obj i=>exact F7 r λ Z Z=>rfl
 | rng n=>exact Atp r λ Z Z Z Z Z=>rfl
 | sym n=>obtain ⟨i,t,_,rfl⟩:=(r:∃ (i:Nat) (t:Tok),i<n/\v=.int (Int.ofNat i) t);rfl
theorem Tq {y x:Nat} {t:Tok} {nm:Str} (hx:nm.cps.toList=Ba x):(Value.str ⟨(Ba y).toArray⟩ t).isStr nm=Nat.beq y x:=by
 cases (show nm=⟨(Ba x).toArray⟩ from by rw [<- hx])
 exact (Fo y x).symm
def Ak7 (x:Nat) (l:List (Nat×PV)):Option PV:=@List.rec _ (λ Z=>Option PV) none (λ a Z ih=>@Bool.rec (λ Z=>Option PV) ih (@Prod.rec _ _ (λ Z=>Option PV) (λ Z v=>some v) a) (Nat.beq a.1 x)) l
def An3 (x:Nat) (l:List (Nat×PV)) (k:PV->Bool):Bool:=@Option.rec _ (λ Z=>Bool) false k (Ak7 x l)
section
variable {w:World} {J:Aj} {h:Heap} {nm:Str} {x:Nat}
@[elab_as_elim] theorem Sy {z:Nat×PV} {l:List (Nat×PV)} {es:List DictEntry} {P:List DictEntry->Prop} (r:Bg w J h (atP z::l.map atP) es) (H:∀ en es',(∃ t,en.key=.str ⟨(Ba z.1).toArray⟩ t)->Ae J h z.2 en.val->en.hash=Ah w (.str z.1)->Bg w J h (l.map atP) es'->P (en::es')):P es:=by
 cases r with
 | cons a b c d=>exact H _ _ a b c d
theorem An4 {C:Prop} {k:PV->Bool} (hx:nm.cps.toList=Ba x):∀ {kvs:List (Nat×PV)} {es:List DictEntry},An3 x kvs k=true->Bg w J h (kvs.map atP) es->(∀ p en,es.find? (·.key.isStr nm)=some en->Ae J h p en.val->k p=true->C)->C
 | [],_,e,_,_=>ff e
 | (y,q)::l,es,e,r,H=>Sy (P:=λ es=>(∀ p en,es.find? (·.key.isStr nm)=some en->Ae J h p en.val->k p=true->C)->C) (z:=(y,q)) r (λ en es hk rq Z r H=>hk.elim λ t hk=>by
  have e:@Option.rec _ (λ Z=>Bool) false k (@Bool.rec (λ Z=>Option PV) (Ak7 x l) (some q) (Nat.beq y x))=true:=e
  have hb:=Tq (y:=y) (t:=t) hx
  cases hyx:Nat.beq y x with
  | true=>
   rw [hyx] at e hb
   exact H q en (by rw [List.find?_cons,hk,hb]) rq e
  | false=>
   rw [hyx] at e hb
   exact An4 hx (kvs:=l) e r λ p en' e1=>H p en' (by rw [List.find?_cons,hk,hb];exact e1)) H
theorem Tp:∀ {kvs:List (Nat×PV)} {es:List DictEntry},nm.cps.toList=Ba x->Bg w J h (kvs.map atP) es->(∀ z∈kvs,z.1≠x)->es.find? (·.key.isStr nm)=none/\es.any (·.refKey)=false
 | [],es,hx,r,_=>by cases r;exact ⟨rfl,rfl⟩
 | (y,q)::l,es,hx,r,hn=>Sy (P:=λ es=>es.find? (·.key.isStr nm)=none/\es.any (·.refKey)=false) (z:=(y,q)) r λ en es hk Z Z r=>hk.elim λ t hk=>by
  obtain ⟨h1,h2⟩:=Tp hx r λ z hz=>hn z (zze _ hz)
  have hb:(Value.str ⟨(Ba y).toArray⟩ t).isStr nm=false:=(Tq hx).trans (Bool.eq_false_iff.mpr λ e=>hn _ zzf (zzh e))
  refine ⟨by rw [List.find?_cons,hk,hb];exact h1,?_⟩
  rw [List.any_cons,h2,Bool.or_false]
  unfold DictEntry.refKey
  rw [hk]
end
section
variable {B:Aq} {A:Around} {J:Aj} {σ:PS} {s:Shared}
theorem Aiz {C:Prop} {d:Nat} {dx:Addr} {k:List (Nat×PV)->Bool} (h:onA d σ k=true) (st:St B J σ s.heap) (ha:J.l[d]?=some dx)
  (H:∀ kvs es n,k kvs=true->s.heap.get? dx=some (dictOf es n)->Avd kvs->Bg B.w J s.heap (kvs.map atP) es->C):C:=A5r h λ l e h=>by
 obtain ⟨o,ho,r⟩:=st.objs d dx ha
 rw [e] at r
 obtain ⟨a,b,es,n,c,r⟩:=r
 exact H l es n h (Bm a c▸ho) b r
theorem Wt {h:Heap} {y dx C:Addr} {o:Obj} (hy:h.get? y=some (instObj C dx)) (ho:h.get? dx=some o):PySem.W.InstAt h y (instObj C dx) C (some o):=⟨hy,rfl,rfl,ho⟩
def Au (x:Nat) (k:PV->Bool) (p:PV) (σ:PS):Bool:=@PV.rec (λ Z=>Nat->PS->(PV->Bool)->Bool) (λ Z=>Unit) (λ Z Z Z=>false) (λ Z Z Z Z=>false) (λ Z Z Z Z=>false) (λ Z Z Z Z=>false) (λ Z Z Z Z Z=>false) (λ Z Z Z Z Z=>false) (λ C d x σ k=>@Bool.rec (λ Z=>Bool) false (@PO.rec (λ Z=>Nat->(PV->Bool)->Bool) (λ Z Z Z=>false) (λ Z Z Z Z=>false) (λ kvs x k=>@Option.rec _ (λ Z=>Bool) false k (Ak7 x kvs)) (λ Z Z=>false) (λ Z Z Z=>false) (gT σ.t d) x k) (aOk x C)) (λ Z Z Z Z=>false) (λ Z Z Z Z=>false) (λ Z Z Z Z=>false) () (λ Z Z Z Z=>()) p x σ k
theorem Ar0 {x:Nat} {k:PV->Bool} {p:PV} {σ:PS} (e:Au x k p σ=true):Ahf (λ C d=>bC false (onA d σ λ kvs=>An3 x kvs k) (aOk x C)) p=true:=by
 cases p with
 | inst C d=>
  refine Bs (show bC false (@PO.rec (λ Z=>Nat->(PV->Bool)->Bool) (λ Z Z Z=>false) (λ Z Z Z Z=>false) (λ kvs x k=>@Option.rec _ (λ Z=>Bool) false k (Ak7 x kvs)) (λ Z Z=>false) (λ Z Z Z=>false) (gT σ.t d) x k) (aOk x C)=true from e) λ ha e=>?_
  show bC false (onA d σ λ kvs=>An3 x kvs k) (aOk x C)=true
  rw [ha]
  show onA d σ _=true
  unfold onA
  cases hg:gT σ.t d with
  | att kvs=>rw [hg] at e;exact e
  | _=>rw [hg] at e;exact ff e
 | _=>exact ff e
theorem Ar1 {nm:Str} {x:Nat} {p:PV} {v:Value} {k:PV->Bool} {expr:Bool} {Q E:Value->Shared->Prop} (hx:nm.cps.toList=Ba x) (hK:H4 B.K nm x=true) (e:Au x k p σ=true) (st:St B J σ s.heap) (r:Ae J s.heap p v)
  (h:∀ q u tk,k q=true->Ae J s.heap q u->Q u {s with toks:=tk}):wpAny (model B.prog B.w) A (getAttr v nm expr) Q E s:=
 Aw7 (Ar0 e) r λ C d y dx e hC ed hy=>Bs e λ ha e=>Aiz e st ed λ kvs es n e ho hok rd=>An4 hx e rd λ q en hf rq e=>by
  obtain ⟨a1,a2,a3⟩:=Akf hK hC ha
  exact get_value st.X (Wt hy ho) (plainGet_of a1).1 (findObj_own a2 a3 rfl (by rw [lookIn_dict];unfold getL;rw [hf])) (Ai8 rq) (h q _ _ e rq)
end
section
variable {B:Aq} {d:Nat} {ks:List (Str×NameKind)} {xs:List Str}
def Avq (x:Nat) (f:EF):EF:=λ ρ σ k=>f ρ σ λ p σ=>Au x (λ q=>k q σ) p σ
theorem At3 {value:Expr} {nm:Str} {pos:Pos} {x:Nat} {f:EF} (hx:nm.cps.toList=Ba x) (hK:H4 B.K nm x=true) (hf:SE B d ks xs value f)
  (he:∀ env,eval (.Attribute value nm pos) env=(do
   let o<-eval value env
   standAt pos.atName
   let r<-holding [o] (getAttr o nm true)
   letTemporaryGo value o r
   pure r)):SE B d ks xs (.Attribute value nm pos) (Avq x f):=λ A s env ρ J σ hR hE hS k Q E e hQ=>
 Attribute_any_ (hf A s env ρ J σ hR hE hS _ _ E e λ v s1 J1 p σ1 e x1 r1=>Ar1 hx hK e x1.st r1 λ q u tk e ru=>hQ u _ J1 q σ1 e (x1.toks tk) ru) (he env)
end
section
variable {prog:Program} {w:World} {A:Around} {s:Shared} {K:Frag} {R:Result->Shared->Prop}
theorem Agv {nm:Str} {a:Int} {b v:Value}:∀ es:List DictEntry,(putL nm a b v es).length≤es.length+1
 | []=>Nat.le_refl _
 | e::r=>by
  unfold putL
  split
  ·exact Nat.le_succ _
  ·exact Nat.succ_le_succ (Agv r)
theorem Atg {C x dx:Addr} {es:List DictEntry} {n:Nat} {v:Value} {nm:Str} {tk:Tok} (X:K.In s.heap) (I:PySem.W.InstAt s.heap x (instObj C dx) C (some (dictOf es n)))
  (hp:plainOver K C=true) (ht:takerIn K C nm=some none) (hh:hasDictIn K C=true) (hl:es.any (·.refKey)=false) (hz:es.length≤1000)
  (h:∀ h',Heap.SameBut dx s.heap h'->h'.get? dx=some (dictOf (putL nm (PyData.keyHash w.params nm) (.str nm s.toks) v es) (putN nm es n))->R (.ok (.ret .none)) {s with heap:=h',toks:=s.toks+1}):
  codeAny (model prog w) A (.call (.builtin "object.__setattr__") ⟨[.ref x,.str nm tk,v],[]⟩) R s:=by
 refine osa_open X I hp ht λ b=>?_
 obtain ⟨cd,hc,hd'⟩:=any_some hh
 have D:s.heap.get? dx=some (dictOf es n):=I.dict
 have D':=Heap.get?_update_self (Obj.putName nm (PyData.keyHash w.params nm) (.str nm s.toks) v) D (by rw [putName_dict];rfl)
 have hx:=I.at_
 refine zza (zzb (zza (zza (wpAny_loadPart hx (zza ((looks_clsIn X hc).here ?_))))))
 rw [hd']
 refine zzb (a:=some dx) (zza (zzb (zza ?_)))
 unfold nsSet
 refine zza (zza (wpAny_askSetting (zzb (zza (wpAny_mkText (zza (wpAny_loadPart D ?_)))))))
 have c:(!(es.toArray).any (·.key.isStr nm)&&(es.toArray).any (·.refKey))=false:=by
  rw [List.any_toArray,List.any_toArray,hl,Bool.and_false]
 show wpAny _ _ (if _ then _ else _) _ _ _
 rw [aRefKeyMayBeTheName_at,c]
 refine wpAny_updatePart D ?_
 rw [putName_dict] at D'
 refine wpAny_bind (wpAny_lookBehind D' (pastItsLine_dict (by rw [List.size_toArray,sizeLine_eq];exact Nat.le_trans (Agv es) (Nat.le_trans (Nat.succ_le_succ hz) (by decide)))) ?_)
 exact zzb (h _ (Heap.SameBut.update ..) D')
end
def Axm (x:Nat) (v:PV) (l:List (Nat×PV)) (k:List (Nat×PV)->Bool):Bool:=@List.rec _ (λ Z=>(List (Nat×PV)->Bool)->Bool) (λ k=>k [(x,v)]) (λ a r ih k=>@Prod.rec _ _ (λ Z=>Bool) (λ y Z=>bC (ih λ r=>k (a::r)) (k ((x,v)::r)) (Nat.beq y x)) a) l k
section
variable {w:World} {J:Aj} {h:Heap} {nm:Str} {x:Nat} {p:PV} {v:Value} {tk:Tok}
theorem Avk {C:Prop} (hx:nm.cps.toList=Ba x) (rv:Ae J h p v):∀ {kvs:List (Nat×PV)} {es:List DictEntry} {k:List (Nat×PV)->Bool},Axm x p kvs k=true->Bg w J h (kvs.map atP) es->(kvs.map (·.1)).Nodup ->
  (∀ kvs',k kvs'=true->Bg w J h (kvs'.map atP) (putL nm (PyData.keyHash w.params nm) (.str nm tk) v es)->(kvs'.map (·.1)).Nodup->(∀ z∈kvs',z.1=x\/z.1∈kvs.map (·.1))->C)->C
 | [],es,k,e,r,_,H=>by
  have hnm:nm=⟨(Ba x).toArray⟩:=by rw [<- hx]
  cases r
  exact H [(x,p)] e (.cons ⟨tk,hnm▸rfl⟩ rv (hnm▸rfl) .nil) (List.nodup_cons.mpr ⟨zzj,List.nodup_nil⟩) λ z hz=>.inl (List.eq_of_mem_singleton hz▸rfl)
 | (y,q)::l,es,k,e,r,hn,H=>by
  have e:bC (Axm x p l λ r=>k ((y,q)::r)) (k ((x,p)::l)) (Nat.beq y x)=true:=e
  obtain ⟨h1,h2⟩:=List.nodup_cons.mp hn
  revert H
  refine Sy (r:Bg w J h (atP (y,q)::l.map atP) es) λ en es hk rq hh rt H=>hk.elim λ t hk=>?_
  have hb:=Tq (y:=y) (t:=t) hx
  cases hyx:Nat.beq y x with
  | true=>
   rw [hyx] at e hb
   cases zzh hyx
   refine H _ e ?_ hn λ z hz=>(List.mem_cons.mp hz).elim (λ e=>.inl (e▸rfl)) λ hz=>.inr (zze _ (List.mem_map.mpr ⟨z,hz,rfl⟩))
   rw [putL,hk,hb,if_pos rfl]
   exact .cons ⟨t,rfl⟩ rv hh rt
  | false=>
   rw [hyx] at e hb
   refine Avk hx rv e rt h2 λ kvs' e r' n' m'=>H _ e ?_ (List.nodup_cons.mpr ⟨λ q=>?_,n'⟩) λ z hz=>(List.mem_cons.mp hz).elim (λ e=>.inr (e▸zzf)) λ hz=>(m' z hz).imp id (zze _)
   ·rw [putL,hk,hb,if_neg (by decide)]
    exact .cons ⟨t,hk⟩ rq hh r'
   ·obtain ⟨z,hz,e⟩:=List.mem_map.mp q
    exact (m' z hz).elim (λ e'=>Nat.ne_of_beq_eq_false hyx (e.symm.trans e')) λ e'=>h1 (e▸e')
theorem Bg.length {kvs:List (PV×PV)} {es:List DictEntry} (r:Bg w J h kvs es):es.length=kvs.length:=by
 induction r with
 | nil=>rfl
 | cons _ _ _ _ ih=>exact congrArg Nat.succ ih
theorem Abg:∀ {kvs:List (Nat×PV)} {es:List DictEntry},Bg w J h (kvs.map atP) es->es.any (·.refKey)=false
 | [],es,r=>by cases r;rfl
 | (y,q)::l,es,r=>Sy (P:=λ es=>es.any (·.refKey)=false) (z:=(y,q)) r λ en es hk Z Z r=>hk.elim λ t hk=>by
  rw [List.any_cons,Abg r,Bool.or_false]
  unfold DictEntry.refKey
  rw [hk]
end
section
variable {B:Aq} {A:Around} {J:Aj} {σ:PS} {s:Shared}
theorem Ajo {K:Frag} {C:Nat} {nm:Str} (h:findIn K (.ref C) nm=some none):takerIn K C nm=some none:=by unfold takerIn;rw [h];rfl
def A22 (x:Nat) (p v:PV) (σ:PS) (k:PS->Bool):Bool:=Ahf (λ C d=>bC false (onA d σ λ kvs=>bC false (Axm x v kvs λ kvs=>Cb d (.att kvs) σ k) (Nat.ble (len kvs) 900)) (aOk x C)) p
theorem Aun {nm:Str} {x:Nat} {p q:PV} {u v:Value} {k:PS->Bool} {Q:Unit->Shared->Prop} {E:Value->Shared->Prop} (hx:nm.cps.toList=Ba x) (hN:x∈Ah5) (hK:H4 B.K nm x=true) (hS:Y4 B.K=true) (e:A22 x p q σ k=true) (st:St B J σ s.heap) (r:Ae J s.heap p u) (rv:Ae J s.heap q v)
  (h:∀ s' σ',k σ'=true->Nx B Ao J s J σ' s'->Q () s'):wpAny (model B.prog B.w) A (setAttr u nm v) Q E s:=
 Aw7 e r λ C d y dx e hC ed hy=>Bs e λ ha e=>Aiz e st ed λ kvs es n e ho hok rd=>Bs e λ hz e=>by
  obtain ⟨a1,a2,a3⟩:=Akf hK hC ha
  obtain ⟨b1,b2⟩:=Azy hS hC
  have hz:=zzi hz
  rw [By] at hz
  refine set_plain st.X (Wt hy ho) b1 (Atg (s:={s with toks:=s.toks+1}) st.X (Wt hy ho) b2 (Ajo a3) a2 (Abg rd) (by rw [rd.length,List.length_map];exact Nat.le_trans hz (by decide)) λ h' hsb hg=>?_)
  exact Avk hx rv e rd hok.2 λ kvs' e r' n' m'=>M0 e λ t' hp e=>h _ _ e (Nx.set st ed _ hsb hg hp ⟨⟨rfl,rfl,rfl⟩,⟨λ z hz=>(m' z hz).elim (λ e=>e▸hN) λ q=>(List.mem_map.mp q).elim λ z' q=>q.2▸hok.1 z' q.1,n'⟩,_,_,rfl,r'⟩)
end
section
variable {B:Aq} {d:Nat} {ks:List (Str×NameKind)} {xs:List Str}
def Awp (x:Nat) (f g:EF):C0:=λ ρ σ kn Z=>g ρ σ λ v σ=>f ρ σ λ p σ=>A22 x p v σ λ σ=>kn ρ σ
theorem Auw {o value:Expr} {nm:Str} {pos pos':Pos} {x:Nat} {f g:EF} (hx:nm.cps.toList=Ba x) (hN:x∈Ah5) (hK:H4 B.K nm x=true) (hSo:Y4 B.K=true) (hf:SE B d ks xs o f) (hg:SE B d ks xs value g)
  (hs:∀ env,swapsWith value (some (.Attribute o nm pos')) pos.line env=pure false):SS B d ks xs (.Assign [.Attribute o nm pos'] value pos) (Awp x f g):=λ A s env ρ J σ hR hE hS hO kn kr Q E e hN' hT=>
 plainObj_wpAny_Assign_Attribute (hg A s env ρ J σ hR hE hS _ _ E e λ v s1 J1 q σ1 e x1 r1=>hf A s1 env ρ J1 σ1 hR (hE.up x1) x1.st _ _ E e λ u s2 J2 p σ2 e x2 r2=>
  Aun hx hN hK hSo e x2.st r2 (x2.up r1) λ s3 σ3 e x3=>hN' s3 J2 ρ σ3 e ((x1.trans (x2.trans x3)).e hE.ownOk) (hE.up (x1.trans (x2.trans x3)))) (hs env)
end
end
section
abbrev MT:=Nat->(Fn->Bool)->Bool
def Amc (B:Aq) (d:Nat) (nm:Str) (k:Nat) (t:MT):Prop:=∀ C κ,t C κ=true ->
 ∃ f F oc od fd osl,plainGet B.K C nm=true/\findIn B.K (.ref C) nm=some (some (.ref f))/\typeIn B.K (.ref f)=some (.type "function")/\B.K.lookup f=some ⟨oc,od,.func fd,osl⟩/\SF B d f k F/\κ F=true
def mt0:MT:=λ Z Z=>false
def mtC (C:Nat) (F:Fn) (r:MT):MT:=λ D κ=>bC (r D κ) (κ F) (Nat.beq C D)
section
variable {B:Aq} {d:Nat} {ks:List (Str×NameKind)} {xs:List Str}
theorem Ayh {nm:Str} {k:Nat}:Amc B d nm k mt0:=λ Z Z h=>ff h
theorem Ayj {nm:Str} {C f k:Nat} {F:Fn} {oc:Value} {od:Option Addr} {fd:FuncData} {osl:Array (Option Value)} {r:MT} (h1:plainGet B.K C nm=true) (h2:findIn B.K (.ref C) nm=some (some (.ref f))) (h3:typeIn B.K (.ref f)=some (.type "function")) (h4:B.K.lookup f=some ⟨oc,od,.func fd,osl⟩)
  (hF:SF B d f k F) (hr:Amc B d nm k r):Amc B d nm k (mtC C F r):=λ D κ h=>by
 have h:bC (r D κ) (κ F) (Nat.beq C D)=true:=h
 cases hb:Nat.beq C D with
 | true=>
  rw [hb] at h
  cases zzh hb
  exact ⟨f,F,oc,od,fd,osl,h1,h2,h3,h4,hF,h⟩
 | false=>rw [hb] at h;exact hr D κ h
def Alf (x:Nat) (l:List (Nat×PV)):Bool:=@List.rec _ (λ Z=>Bool) true (λ a Z ih=>@Prod.rec _ _ (λ Z=>Bool) (λ y Z=>bC ih false (Nat.beq y x)) a) l
theorem Apw {x:Nat}:∀ {l:List (Nat×PV)},Alf x l=true->∀ z∈l,z.1≠x
 | (y,q)::l,h,z,hz=>by
  have h:bC (Alf x l) false (Nat.beq y x)=true:=h
  cases hb:Nat.beq y x with
  | true=>rw [hb] at h;exact ff h
  | false=>
   rw [hb] at h
   exact (List.mem_cons.mp hz).elim (λ e=>e▸Nat.ne_of_beq_eq_false hb) (Apw h z)
 | [],_,_,hz=>absurd hz zzj
def Apr (r:Bool) (x:Nat) (t:MT) (p:PV) (σ:PS) (κ:Fn->Bool):Bool:=Ahf (λ C d=>onA d σ λ kvs=>bC (t C κ) (bC false (t C κ) (Alf x kvs)) r) p
def Avw (r:Bool) (x:Nat) (t:MT) (f:EF) (l:LF):EF:=λ ρ σ k=>f ρ σ λ p σ=>Apr r x t p σ λ F=>l ρ σ λ ps σ=>F (p::ps) σ k
theorem As6 {A:Around} {J:Aj} {σ:PS} {s:Shared} {nm:Str} {x k:Nat} {t:MT} {pl:Sem Bool} {r:Bool} {p:PV} {u:Value} {κ:Fn->Bool} {Q:Value×List Value->Shared->Prop} {E:Value->Shared->Prop} (hx:nm.cps.toList=Ba x) (hT:Amc B d nm k t) (hr:r=true\/x∉Ah5)
  (e:Apr r x t p σ κ=true) (st:St B J σ s.heap) (ru:Ae J s.heap p u) (h:∀ f F oc od fd osl,B.K.lookup f=some ⟨oc,od,.func fd,osl⟩->SF B d f k F->κ F=true->Q (.ref f,[u]) s):wpAny (model B.prog B.w) A (getMethod u nm pl) Q E s:=by
 obtain ⟨C,dd,rfl,e⟩:=Arh e
 revert h
 refine Y2 ru λ y dx hC ed hy h=>?_
 have key:∀ {kvs:List (Nat×PV)} {es:List DictEntry} {n:Nat},t C κ=true->s.heap.get? dx=some (dictOf es n)->Bg B.w J s.heap (kvs.map atP) es->(∀ z∈kvs,z.1≠x)->wpAny (model B.prog B.w) A (getMethod (.ref y) nm pl) Q E s:=λ {kvs es n} e ho rd hn=>by
  obtain ⟨f,F,oc,od,fd,osl,a1,a2,a3,a4,a5,eF⟩:=hT C κ e
  refine method_fn st.X (Wt hy ho) (plainGet_of a1).1 (plainGet_of a1).2 a2 a3 ?_ (h f F oc od fd osl a4 a5 eF)
  show (lookIn nm (dictOf es n)).map _=_
  rw [lookIn_dict]
  unfold getL
  rw [(Tp hx rd hn).1,(Tp hx rd hn).2];rfl
 refine Aiz (k:=λ kvs=>bC (t C κ) (bC false (t C κ) (Alf x kvs)) r) e st ed λ kvs es n e ho hok rd=>?_
 cases r with
 | true=>exact Bs e λ hn e=>key e ho rd (Apw hn)
 | false=>exact key e ho rd λ z hz q=>hr.elim (λ h=>nomatch h) λ h=>h (q▸hok.1 z hz)
theorem Aug {value:Expr} {nm:Str} {apos pos:Pos} {args:List Expr} {x:Nat} {t:MT} {r:Bool} {f:EF} {l:LF} (hx:nm.cps.toList=Ba x) (hT:Amc B d nm (args.length+1) t) (hr:r=true\/x∉Ah5) (hv:SE B d ks xs value f) (ha:SEL B d ks xs args l)
  (he:∀ env,∃ pl,eval (.Call (.Attribute value nm apos) args [] pos) env=(do
   let ov<-eval value env
   standAt apos.atName
   let (f,first)<-holding [ov] (getMethod ov nm pl)
   callWith pos f first (backTo pos (starEach args env)) [])):SE B d ks xs (.Call (.Attribute value nm apos) args [] pos) (Avw r x t f l):=λ A s env ρ J σ hR hE hS k Q E e hQ=>by
 obtain ⟨pl,he⟩:=he env
 refine MethodCall_ (pl:=pl) (hv A s env ρ J σ hR hE hS _ _ E e λ v s1 J1 p σ1 e x1 r1=>As6 hx hT hr e x1.st r1 λ fa F oc od fd osl a4 a5 e=>?_) he
 obtain ⟨h1,_,h3⟩:=ha A s1 env ρ J1 σ1 pos hR (hE.up x1) x1.st
 exact callWith_function (Bo ((A9 _ _).trans h1) (h3 _ _ E e λ vs s2 J2 ps σ2 e x2 r2=>⟨⟨x2.st.X _ _ a4,rfl⟩,
  a5 A s2 J2 σ2 (p::ps) (v::vs) hR x2.st (Bd (x2.up r1) r2.1) (congrArg Nat.succ r2.2) _ Q E e λ w s3 J3 q σ3 e x3 r3=>hQ w s3 J3 q σ3 e (x1.trans (x2.trans x3)) r3⟩))
theorem Ans (C:Addr) (vs:List Value):Code.weight (.builtin "type.__call__" ⟨.ref C::vs,[]⟩)=1:=by first|rfl|kernel_rfl
theorem Arf (ar:Args):Code.cUnits (.builtin "type.__call__" ar)=1:=rfl
section
variable {A:Around} {J:Aj} {σ:PS} {s:Shared}
abbrev Aiv (h:Heap) (C:Addr):Heap:=(h.push emptyDict).push (instObj C h.objs.size)
theorem Alc (h:Heap) (C:Addr):(Aiv h C).get? (h.objs.size+1)=some (instObj C h.objs.size):=Heap.size_push h emptyDict▸zzd (h.push emptyDict) rfl
theorem Nx.inst {t':TS} {C:Nat} (st:St B J σ s.heap) (hC:C∈D3) (hp:Put σ.t t' σ.n (.att [])):Nx B Ao J s (J.add (s.heap.objs.size)) ⟨σ.n+1,t'⟩ {s with heap:=Aiv s.heap C}/\Ae (J.add (s.heap.objs.size)) (Aiv s.heap C) (.inst C σ.n) (.ref (s.heap.objs.size+1)):=by
 have x1:=Nx.push (o:=emptyDict) st hp ⟨⟨rfl,rfl,rfl⟩,⟨λ z hz=>absurd hz zzj,List.nodup_nil⟩,[],0,rfl,.nil⟩ rfl s.toks
 exact ⟨x1.trans (Nx.keep x1.st (Ab _ _) s.toks (Aw (s.heap.push emptyDict) (instObj C s.heap.objs.size))),Ajp hC (Ql st _) (Alc s.heap C)⟩
end
def A1e (C:Nat) (F:Fn) (l:LF):EF:=λ ρ σ k=>l ρ σ λ ps σ=>Am (.att []) σ λ d σ=>F (.inst C d::ps) σ λ r σ=>Nn (k (.inst C d) σ) r
theorem Azt {cx:Str} {np pos:Pos} {args:List Expr} {C fI:Nat} {F:Fn} {l:LF}
  (hx:nsIn B.K mainGlobals cx=some (some (.ref C))) (hk:ks.lookup cx=some .globalImplicit) (hd:(cx==("__debug__":Str))=false) (hC:C∈D3) (hkp:keepIn B.K (.ref C)=true)
  (hm:makesIn B.K C=true) (hi:findIn B.K (.ref C) "__init__"=some (some (.ref fI))) (hf:typeIn B.K (.ref fI)=some (.type "function"))
  (hF:SFc B d fI (args.length+1) F) (ha:SEL B (d+1) ks xs args l):SE B (d+1) ks xs (.Call (.Name cx np) args [] pos) (A1e C F l):=λ A s env ρ J σ hR hE hS k Q E e hQ=>by
 obtain ⟨h1,_,h3⟩:=ha A s env ρ J σ pos hR hE hS
 show wpAny _ _ (do callWith pos (<- eval (.Name cx np) env) [] (backTo pos (starEach args env)) []) _ _ _
 refine wpAny_bind (Name_function_global hE.kind (Cq hE hk) (loadGlobal_global (by rw [hE.globals];exact hS.T.g) (mg_of B.X B.T.g hx) ?_) hd)
 refine callWith_of (P:=B.K.In) (by rw [A9,h1];rfl) (keeps_K hkp) (Bo ((A9 _ _).trans h1) (h3 _ _ E e λ vs s1 J1 ps σ1 e x1 r1=>⟨x1.st.X,wpAny_call ?_⟩))
 refine Dy e λ t' hp e=>?_
 obtain ⟨x2,ri⟩:=Nx.inst x1.st hC hp
 refine make_core (makes_of x1.st.X hm) (looks_findIn x1.st.X hi) (λ self=>bind_fn x1.st.X self hf) (.inl rfl) ?_
 refine hF _ {s1 with heap:=Aiv s1.heap C} _ _ (.inst C σ1.n::ps) (.ref (s1.heap.objs.size+1)::vs) ?_ x2.st (Bd ri (x2.upL r1.1)) (congrArg Nat.succ r1.2) _ _ e λ v s2 J2 q σ2 e x3 r2=>?_
 ·refine ⟨?_,?_,hR.2.2⟩
  ·show A.depth+Code.weight (.builtin "type.__call__" ⟨.ref C::vs,[]⟩)+d+10<_
   rw [Ans,Nat.add_assoc A.depth,Nat.add_comm 1];exact hR.1
  ·show A.units+Code.cUnits (.builtin "type.__call__" ⟨.ref C::vs,[]⟩)+12*d+100<_
   rw [Arf]
   exact Nat.lt_of_le_of_lt (by omega) hR.2.1
 ·obtain ⟨rfl,e⟩:=Ajx e r2
  exact ⟨rfl,hQ _ s2 J2 _ σ2 e (x1.trans (x2.trans x3)) (x3.up ri)⟩
def Avy (C:Nat):EF:=λ Z σ k=>Am (.att []) σ λ d σ=>k (.inst C d) σ
theorem Aui {cx:Str} {np pos:Pos} {C:Nat}
  (hx:nsIn B.K mainGlobals cx=some (some (.ref C))) (hk:ks.lookup cx=some .globalImplicit) (hd:(cx==("__debug__":Str))=false) (hC:C∈D3) (hkp:keepIn B.K (.ref C)=true)
  (hm:makesIn B.K C=true) (hi:findIn B.K (.ref C) "__init__"=some (some (.builtin "object.__init__"))):SE B d ks xs (.Call (.Name cx np) [] [] pos) (Avy C):=λ A s env ρ J σ hR hE hS k Q E e hQ=>by
 show wpAny _ _ (do callWith pos (<- eval (.Name cx np) env) [] (backTo pos (starEach [] env)) []) _ _ _
 refine wpAny_bind (Name_function_global hE.kind (Cq hE hk) (loadGlobal_global (by rw [hE.globals];exact hS.T.g) (mg_of B.X B.T.g hx) ?_) hd)
 refine callWith_K0 hS.X hkp (wpAny_call (Dy e λ t' hp e=>?_))
 have Y:=makes_of (M:=model B.prog B.w) hS.X hm
 obtain ⟨x2,ri⟩:=Nx.inst hS hC hp
 refine make_core Y (looks_findIn hS.X hi) (λ self=>Looks.of_pure (oi_bind self)) (.inr ⟨rfl,rfl⟩) ?_
 have t1:Looks (model B.prog B.w) (Aiv s.heap C) (typeOf (.ref (s.heap.objs.size+1))) (.ref C):=(Looks.ld (Alc s.heap C)).andThen .now
 have t2:Looks (model B.prog B.w) (Aiv s.heap C) (isInstance (.ref (s.heap.objs.size+1)) (.type "object")) true:=t1.andThen (Y.top.keeps λ b o e=>zzc _ (zzc _ e))
 refine codeAny_call_builtin oi_plain entry_oi (@check_slot (model B.prog B.w) _ _ _ "object.__init__" "object" "__init__" (.ref (s.heap.objs.size+1)) [] [] _ oi_kind oi_split t2 (oi_args (.ref (s.heap.objs.size+1))) ?_)
 show wpAny _ _ (Builtin.«object.__init__» ⟨[.ref (s.heap.objs.size+1)],[]⟩) _ _ _
 rw [oi_run]
 exact zzb (And.intro rfl (hQ _ {s with heap:=Aiv s.heap C} _ _ _ e x2 ri))
end
end
section
theorem Wx {l l':List PV} (h:PV.tup l=.tup l'):l=l':=by cases h;rfl
theorem Ws {P:PV->Nat->Prop} {m:Nat} (H:∀ p,hkB p m=true->P p m):∀ {l:List PV},hkL l m=true->∀ q∈l,P q m
 | [],_,q,h=>absurd h zzj
 | p::l,h,q,hq=>Bs (b:=hkB p m) (t:=hkL l m) h λ h1 h2=>(List.mem_cons.mp hq).elim (λ e=>e▸H p h1) (Ws H h2 q)
theorem Gl {P:PV->Nat->Prop} (str:∀ s n,P (.str s) n) (int:∀ i n,P (.int i) n) (tup:∀ l m,hkL l m=true->(∀ q∈l,P q m)->P (.tup l) (m+1)):∀ (n:Nat) (p:PV),hkB p n=true->P p n:=λ n=>by
 induction n with
 | zero=>intro p h;cases p with
  | str s=>exact str s 0
  | int i=>exact int i 0
  | _=>exact ff h
 | succ n ih=>intro p h;cases p with
  | str s=>exact str s _
  | int i=>exact int i _
  | tup l=>exact tup l n h (Ws ih h)
  | _=>exact ff h
theorem RepL.imp {J J':Aj} {h h':Heap}:∀ {l:List PV} {vs:List Value},(∀ p∈l,∀ v,Ae J h p v->Ae J' h' p v)->RepL J h l vs->RepL J' h' l vs
 | [],vs,_,r=>r
 | p::l,vs,hp,r=>A8 r λ v us a b=>Bd (hp p zzf v a) (b.imp λ q hq=>hp q (zze _ hq))
def Aj.none:Aj:=⟨[],[]⟩
theorem Aj.no {a:Addr}:¬ Aj.none.has a:=λ q=>q.elim (λ q=>absurd q zzj) λ q=>absurd q zzj
theorem Adv {J:Aj} {h h':Heap} (hk:∀ a vs,IsTup h a vs->IsTup h' a vs/\(NoD h a->NoD h' a)):∀ (n:Nat) (p:PV),hkB p n=true->∀ v,Ae J h p v->Ae Aj.none h' p v:=
 Gl (P:=λ p Z=>∀ v,Ae J h p v->Ae Aj.none h' p v) (λ Z Z Z r=>r) (λ Z Z Z r=>r) λ l m Z ih v r=>Cw r λ a vs Z nd t rl=>Ek Aj.no ((hk _ _ t).2 nd) (hk _ _ t).1 (rl.imp ih)
theorem RepL.inj {J:Aj} {h:Heap}:∀ {l l':List PV} {vs:List Value},(∀ p∈l,∀ q∈l',∀ v,Ae J h p v->Ae J h q v->p=q)->RepL J h l vs->RepL J h l' vs->l=l'
 | [],[],_,_,_,_=>rfl
 | [],q::l',vs,_,r,r'=>C8 (P:=λ vs=>RepL J h (q::l') vs->[]=q::l') r (λ r'=>(r':∃ v r,[]=v::r/\_).elim λ v r=>r.elim λ r q=>nomatch q.1) r'
 | p::l,[],vs,_,r,r'=>C8 (P:=λ vs=>RepL J h (p::l) vs->p::l=[]) r' (λ r=>(r:∃ v r,[]=v::r/\_).elim λ v r=>r.elim λ r q=>nomatch q.1) r
 | p::l,q::l',vs,hp,r,r'=>A8 (P:=λ vs=>RepL J h (q::l') vs->p::l=q::l') r (λ v us a b r'=>by
  obtain ⟨v',us',e,a',b'⟩:=(r':∃ v' us',v::us=v'::us'/\Ae J h q v'/\RepL J h l' us')
  cases e
  rw [hp p List.mem_cons_self q List.mem_cons_self v a a',RepL.inj (λ p hp' q hq=>hp p (List.mem_cons_of_mem _ hp') q (List.mem_cons_of_mem _ hq)) b b']) r'
theorem A0f {h:Heap} {a:Addr} {vs ws:List Value} (t:IsTup h a vs.toArray) (u:IsTup h a ws.toArray):vs=ws:=by
 obtain ⟨o,ho,_,k,hd⟩:=t
 obtain ⟨o',ho',_,k',hd'⟩:=u
 cases ho.symm.trans ho'
 exact congrArg Array.toList (PySem.Data.seq.inj (hd.symm.trans hd')).1
theorem Ax5 {J:Aj} {h:Heap}:∀ (n:Nat) (p:PV),hkB p n=true->∀ m q v,hkB q m=true->Ae J h p v->Ae J h q v->p=q:=by
 refine Gl (P:=λ p Z=>∀ m q v,hkB q m=true->Ae J h p v->Ae J h q v->p=q) (λ s n m q v hq r r'=>?_) (λ i n m q v hq r r'=>?_) λ l n Z ih m q v hq r r'=>?_
 ·revert r'
  refine Ei r λ t r'=>?_
  cases q with
  | str y=>exact (r':∃ t',_).elim λ t' e=>congrArg PV.str (Adg s y (congrArg Array.toList (Str.mk.inj (Value.str.inj e).1)))
  | int j=>exact (r':∃ t',_).elim λ t' e=>nomatch e
  | tup l=>exact (r':∃ t',_).elim λ t' e=>e.elim λ Z e=>nomatch e.1
  | _=>exact ff hq
 ·revert r'
  refine Eh r λ t r'=>?_
  cases q with
  | str y=>exact (r':∃ t',_).elim λ t' e=>nomatch e
  | int j=>exact (r':∃ t',_).elim λ t' e=>congrArg PV.int (Value.int.inj e).1
  | tup l=>exact (r':∃ t',_).elim λ t' e=>e.elim λ Z e=>nomatch e.1
  | _=>exact ff hq
 ·revert r'
  refine Cw r λ a vs Z Z t rl r'=>?_
  cases q with
  | str y=>exact (r':∃ t',_).elim λ t' e=>nomatch e
  | int j=>exact (r':∃ t',_).elim λ t' e=>nomatch e
  | tup l'=>
   cases m with
   | zero=>exact ff hq
   | succ m=>
    obtain ⟨a',vs',e,_,t',rl'⟩:=(r':∃ a' vs',Value.ref a=.ref a'/\(¬ J.has a'/\NoD h a')/\IsTup h a' vs'.toArray/\RepL J h l' vs')
    cases e
    cases A0f t t'
    exact congrArg PV.tup (RepL.inj (λ p hp q hq' v=>ih p hp m q v (Ws (P:=λ q m=>hkB q m=true) (λ Z h=>h) hq q hq')) rl rl')
  | _=>exact ff hq
def D9 (p:PV):PV->Bool:=@PV.rec (λ Z=>PV->Bool) (λ Z=>List PV->Bool) F1 F2 (λ a=>Eu (eqI a)) (λ a=>El (Nat.beq a)) (λ Z ih=>Lo ih) (λ Z Z=>F1) (λ Z Z=>F1) F2 F2 F2 (lC true F2) (λ Z Z hp hl=>lC false λ q r=>bC false (hl r) (hp q)) p
def Ax9 (l:List PV):List PV->Bool:=@PV.rec_1 (λ Z=>PV->Bool) (λ Z=>List PV->Bool) F1 F2 (λ a=>Eu (eqI a)) (λ a=>El (Nat.beq a)) (λ Z ih=>Lo ih) (λ Z Z=>F1) (λ Z Z=>F1) F2 F2 F2 (lC true F2) (λ Z Z hp hl=>lC false λ q r=>bC false (hl r) (hp q)) l
theorem Wu:∀ {l:List PV},(∀ p∈l,∀ q,D9 p q=true↔p=q)->∀ l',Ax9 l l'=true↔l=l'
 | [],_,[]=>⟨λ Z=>rfl,λ Z=>rfl⟩
 | [],_,_::_=>⟨λ h=>ff h,λ h=>nomatch h⟩
 | _::_,_,[]=>⟨λ h=>ff h,λ h=>nomatch h⟩
 | p::l,H,q::l'=>⟨λ h=>Bs (b:=D9 p q) (t:=Ax9 l l') h λ h1 h2=>by rw [(H p List.mem_cons_self q).mp h1,(Wu (λ p hp=>H p (List.mem_cons_of_mem _ hp)) l').mp h2],λ h=>by
  cases h
  show bC false (Ax9 l l) (D9 p p)=true
  rw [(H p List.mem_cons_self p).mpr rfl]
  exact (Wu (λ p hp=>H p (zze _ hp)) l).mpr rfl⟩
theorem Tt {p:PV} (hp:p.hk=true):∀ q,D9 p q=true↔p=q:=
 Gl (P:=λ p Z=>∀ q,D9 p q=true↔p=q) (λ s n q=>⟨λ h=>(Pz h).elim λ i h=>h.1▸congrArg PV.str (zzh h.2),λ h=>h▸Nat.beq_refl s⟩)
  (λ i n q=>⟨λ h=>(S6 h).elim λ j h=>h.1▸congrArg PV.int (eq_of_beq ((H9 i j).symm.trans h.2)),λ h=>h▸(H9 i i).trans (beq_self_eq_true i)⟩)
  (λ l m Z ih q=>⟨λ h=>(Acf h).elim λ r h=>h.1▸congrArg PV.tup ((Wu ih r).mp h.2),λ h=>h▸(Wu ih l).mpr rfl⟩) 6 p hp
theorem Akr {f:PV->PV->(Bool->Bool)->Bool}:∀ (l l':List PV),(∀ p∈l,∀ q∈l',∃ b,(∀ k,f p q k=k b)/\(b=true↔p=q))->∃ b,(∀ k,Asd f l l' k=k b)/\(b=true↔l=l')
 | [],[],_=>⟨true,λ Z=>rfl,λ Z=>rfl,λ Z=>rfl⟩
 | [],_::_,_=>⟨false,λ Z=>rfl,λ h=>ff h,λ h=>nomatch h⟩
 | _::_,[],_=>⟨false,λ Z=>rfl,λ h=>ff h,λ h=>nomatch h⟩
 | p::l,q::l',H=>by
  obtain ⟨b,h1,h2⟩:=H p zzf q zzf
  obtain ⟨c,h3,h4⟩:=Akr l l' λ p hp q hq=>H p (zze _ hp) q (zze _ hq)
  exact ⟨b&&c,λ k=>(h1 _).trans (h3 _),λ h=>by rw [h2.mp (b2 h).1,h4.mp (b2 h).2],λ h=>by cases h;exact Bool.and_eq_true_iff.mpr ⟨h2.mpr rfl,h4.mpr rfl⟩⟩
theorem Aov:∀ (n:Nat) (p:PV),hkB p n=true->∀ m q j,n<j->hkB q m=true->∃ b,(∀ k,eqK j p q k=k b)/\(b=true↔p=q):=by
 refine Gl (P:=λ p n=>∀ m q j,n<j->hkB q m=true->∃ b,(∀ k,eqK j p q k=k b)/\(b=true↔p=q)) (λ s n m q j hj hq=>?_) (λ i n m q j hj hq=>?_) λ l n Z ih m q j hj hq=>?_<;>cases j with
 | zero=>exact absurd hj (Nat.not_lt_zero _)
 | succ j=>?_
 ·cases q with
  | str y=>exact ⟨_,λ Z=>rfl,λ h=>congrArg PV.str (zzh h),λ h=>by cases h;exact Nat.beq_refl s⟩
  | int j=>exact ⟨_,λ Z=>rfl,λ h=>ff h,λ h=>nomatch h⟩
  | tup l=>exact ⟨_,λ Z=>rfl,λ h=>ff h,λ h=>nomatch h⟩
  | _=>exact ff hq
 ·cases q with
  | str y=>exact ⟨_,λ Z=>rfl,λ h=>ff h,λ h=>nomatch h⟩
  | int y=>exact ⟨_,λ Z=>rfl,λ h=>congrArg PV.int (eq_of_beq ((H9 i y).symm.trans h)),λ h=>by cases h;exact (H9 i i).trans (beq_self_eq_true i)⟩
  | tup l=>exact ⟨_,λ Z=>rfl,λ h=>ff h,λ h=>nomatch h⟩
  | _=>exact ff hq
 ·cases q with
  | str y=>exact ⟨_,λ Z=>rfl,λ h=>ff h,λ h=>nomatch h⟩
  | int j=>exact ⟨_,λ Z=>rfl,λ h=>ff h,λ h=>nomatch h⟩
  | tup l'=>
   cases m with
   | zero=>exact ff hq
   | succ m=>
    obtain ⟨b,h1,h2⟩:=Akr (f:=eqK j) l l' λ p hp q hq'=>ih p hp m q j (Nat.lt_of_succ_lt_succ hj) (Ws (P:=λ q m=>hkB q m=true) (λ Z h=>h) hq q hq')
    exact ⟨b,h1,λ h=>congrArg PV.tup (h2.mp h),λ h=>h2.mpr (Wx h)⟩
  | _=>exact ff hq
def dr (p:PV):Nat:=@PV.rec (λ Z=>Nat) (λ Z=>Nat) 1 (λ Z=>1) (λ Z=>1) (λ Z=>1) (λ Z ih=>ih+1) (λ Z Z=>1) (λ Z Z=>1) (λ Z=>1) (λ Z=>1) (λ Z=>1) 0 (λ Z Z hp hl=>hp+hl) p
def drL (l:List PV):Nat:=@PV.rec_1 (λ Z=>Nat) (λ Z=>Nat) 1 (λ Z=>1) (λ Z=>1) (λ Z=>1) (λ Z ih=>ih+1) (λ Z Z=>1) (λ Z Z=>1) (λ Z=>1) (λ Z=>1) (λ Z=>1) 0 (λ Z Z hp hl=>hp+hl) l
section
variable {prog:Program} {w:World} {J:Aj} {E:Value->Shared->Prop}
theorem Abw {A:Around}:∀ (l:List PV) (vs:List Value) (s:Shared) (b:Array Int) (Q:Array Int->Shared->Prop),
  (∀ p∈l,∀ (v:Value) (s:Shared) (Q:Int->Shared->Prop),Ae J s.heap p v->Q (Ah w p) {s with toks:=s.toks+dr p}->wpAny (model prog w) A (pyHash v) Q E s) ->
  RepL J s.heap l vs->(∀ b',b'.toList=b.toList++Ax4 w l->Q b' {s with toks:=s.toks+drL l}) ->
  wpAny (model prog w) A (forIn vs b λ x r=>do let h<-pyHash x;pure PUnit.unit;pure (ForInStep.yield (r.push h))) Q E s
 | [],vs,s,b,Q,_,r,h=>C8 r (zzb (h b (List.append_nil _).symm))
 | p::l,vs,s,b,Q,ih,r,h=>A8 r λ v u r1 r2=>by
  rw [List.forIn_cons]
  refine zza (zza (ih p zzf v s _ r1 (zza (zzb (zzb ?_)))))
  refine Abw l u {s with toks:=s.toks+dr p} _ Q (λ q hq=>ih q (zze _ hq)) r2 λ b' hb=>?_
  have:=h b' (by rw [hb,Array.toList_push,List.append_assoc];rfl)
  rw [show drL (p::l)=dr p+drL l from rfl,<-Nat.add_assoc] at this
  exact this
theorem Tz:∀ (n:Nat) (p:PV),hkB p n=true->∀ (v:Value) (A:Around) (s:Shared) (Q:Int->Shared->Prop),Ae J s.heap p v->A.units+n<cLine->Q (Ah w p) {s with toks:=s.toks+dr p}->wpAny (model prog w) A (pyHash v) Q E s:=by
 refine Gl (P:=λ p n=>∀ (v:Value) (A:Around) (s:Shared) (Q:Int->Shared->Prop),Ae J s.heap p v->A.units+n<cLine->Q (Ah w p) {s with toks:=s.toks+dr p}->wpAny (model prog w) A (pyHash v) Q E s)
  (λ x n v A s Q r hu h=>Ei r λ t=>wpAny_pyHash_str h) (λ i n v A s Q r hu h=>Eh r λ t=>wpAny_pyHash_int h) λ l n Z ih v A s Q r hu h=>Cw r λ a vs Z Z t rl=>?_
 obtain ⟨o,ho,hc,k,hd⟩:=t
 refine pyHash_slot (T:="tuple") ⟨o,ho,hc⟩ F.slot_tuple_hash F.entry_tuple_hash (F.args_tuple_hash_1 _) (beq_builtin_none _) (.inr (Nat.lt_of_le_of_lt (Nat.le_add_right _ _) hu)) ?_
 show wpAny _ _ (Builtin.Tuple.tupleItemsOf (.ref a) >>= _) _ _ s
 refine zza (wpAny_tupleItemsOf ho hd (zza ?_))
 rw [<- Array.forIn_toList]
 refine Abw l vs s #[] _ (λ p hp v s Q rv hq=>ih p hp v A.in1 s Q rv (by show A.units+1+n<cLine;rw [Nat.add_assoc,Nat.add_comm 1];exact hu) hq) rl λ b hb=>?_
 show wpAny _ _ (retInt (Builtin.Tuple.tupleHashOf b.toList)) _ _ _
 rw [hb]
 exact zza (wpAny_mkInt (zzb ⟨_,_,rfl,h⟩))
theorem Y1 {A:Around}:∀ (n:Nat) (p:PV),hkB p n=true->∀ (m:Nat) (v:Value) (s:Shared) (Q:Bool->Shared->Prop),n≤m->Ae J s.heap p v->Q true s->wpAny (model prog w) A (eqIsQuiet m v) Q E s:=by
 refine Gl (P:=λ p n=>∀ (m:Nat) (v:Value) (s:Shared) (Q:Bool->Shared->Prop),n≤m->Ae J s.heap p v->Q true s->wpAny (model prog w) A (eqIsQuiet m v) Q E s)
  (λ x n m v s Q hm r h=>Ei r λ t=>by rw [eqIsQuiet_byValue _ rfl];exact wpAny_pure h) (λ x n m v s Q hm r h=>Eh r λ t=>by rw [eqIsQuiet_byValue _ rfl];exact wpAny_pure h) λ l n Z ih m v s Q hm r h=>Cw r λ a vs Z Z t rl=>?_
 cases m with
 | zero=>exact absurd hm (Nat.not_succ_le_zero _)
 | succ m=>
  obtain ⟨o,ho,hc,k,hd⟩:=t
  have hT:s.TypeIs (.ref a) "tuple":=⟨o,ho,hc⟩
  unfold eqIsQuiet
  refine zza (wpAny_specialOf hT F.slot_tuple_eq.lookup ?_)
  show wpAny _ _ (isInstance (.ref a) (.type "tuple") >>= _) _ _ s
  refine zza (wpAny_isInstance hT isSubtype_tuple_tuple (zza (wpAny_seqItems ho hd (zza ?_))))
  show wpAny _ _ (forIn vs.toArray _ _) _ _ s
  rw [<- Array.forIn_toList]
  refine wpAny_forIn_list _ (λ rest r s'=>r.1=none/\s'=s/\∃ l',(∀ q∈l',q∈l)/\RepL J s.heap l' rest) _ (λ v rest r s' hI=>?_) (λ r s' hI=>?_) _ _ ⟨rfl,rfl,l,λ Z h=>h,rl⟩
  ·obtain ⟨hr,rfl,l',hl',rl'⟩:=hI
   cases l' with
   | nil=>exact nomatch (rl':v::rest=[])
   | cons q l'=>
    obtain ⟨v',rest',e,r1,r2⟩:=(rl':∃ v' us',v::rest=v'::us'/\Ae J s'.heap q v'/\RepL J s'.heap l' us')
    cases e
    exact zza (ih q (hl' q zzf) m _ s' _ (Nat.le_of_succ_le_succ hm) r1 (zzb ⟨rfl,rfl,l',λ q hq=>hl' q (zze _ hq),r2⟩))
  ·obtain ⟨r1,r2⟩:=r
   obtain ⟨hr,rfl,_⟩:=hI
   cases hr
   exact zzb h
end
section
open Classical
def Ai6 (prog:Program) (w:World):HeapKind prog w (List PV) where
 is:=λ h k a=>hkB (.tup k) 6=true/\Ae Aj.none h (.tup k) (.ref a)
 hash:=λ k=>Ah w (.tup k)
 draws:=λ k=>dr (.tup k)
 room:=λ A=>A.units+20<cLine
 inj:=λ {h a x y} hx hy=>Wx (Ax5 6 _ hx.1 6 _ _ hy.1 hx.2 hy.2)
 keeps:=λ {h h' k a d o es ep} x ho hd hs=>⟨x.1,Adv (λ b vs t=>by
  obtain ⟨o',ho',hc,n,hd'⟩:=t
  have hk:h'.get? b=some o':=(hs.2 b λ e=>by
   subst e
   cases ho.symm.trans ho'
   exact nomatch hd.symm.trans hd').trans ho'
  exact ⟨⟨o',hk,hc,n,hd'⟩,λ y=>y.elim λ o2 q=>⟨o',hk,Option.some.inj (q.1.symm.trans ho')▸q.2⟩⟩) 6 _ x.1 _ x.2⟩
 pyHash:=λ hu hk h=>Tz 6 _ hk.1 _ _ _ _ hk.2 (Nat.lt_of_le_of_lt (Nat.add_le_add_left (by decide) _) hu) h
 eqBool:=λ {A E s x y a b Q} hu hx hy h=>by
  obtain ⟨c,h1,h2⟩:=Aov 6 _ hx.1 6 _ 10 (by decide) hy.1
  obtain ⟨c',h3,h4⟩:=Amm 10 _ _ _ _ (λ b=>b==c) (Nat.lt_of_le_of_lt (Nat.add_le_add_left (by decide) _) hu) ((h1 _).trans (beq_self_eq_true c)) hx.2 hy.2
  refine h4.e prog w E Q ?_
  rw [(eq_of_beq h3).trans (show c=decide (x=y) from Bool.eq_iff_iff.mpr (h2.trans ⟨λ e=>decide_eq_true (Wx e),λ e=>congrArg PV.tup (of_decide_eq_true e)⟩))]
  exact h
 quiet:=λ hk h=>Y1 6 _ hk.1 8 _ _ _ (by decide) hk.2 h
end
end
section
def Mn (k:PV) (kvs:List (PV×PV)):Option Nat:=kvs.findIdx? λ x=>D9 x.1 k
theorem A1o {p:PV} (h:p.hk=true):p.kd≠0:=λ e=>by cases p<;>first|exact ff h|exact nomatch e
def Co (k:PV) (kvs:List (PV×PV)):Bool:=bC false (lC true (λ x Z=>@Prod.rec _ _ (λ Z=>Bool) (λ p Z=>Nat.beq p.kd k.kd) x) kvs) k.hk
theorem Ts {k:PV} {kvs:List (PV×PV)} (h:Co k kvs=true) (hk:Bw kvs):k.hk=true/\∀ x∈kvs,x.1.kd=k.kd/\x.1.hk=true:=Bs h λ hh h=>⟨hh,by
 obtain ⟨⟨k0,h0,hall⟩,_⟩:=hk
 cases kvs with
 | nil=>exact λ x hx=>absurd hx zzj
 | cons a r=>
  obtain ⟨p,q⟩:=a
  exact λ x hx=>⟨(hall x hx).1.trans ((hall _ zzf).1.symm.trans (zzh h)),(hall x hx).2⟩⟩
theorem Fq (k p q:PV) (r:List (PV×PV)):Mn k ((p,q)::r)=if D9 p k=true then some 0 else (Mn k r).map (·+1):=List.findIdx?_cons
theorem U5 {k:PV}:∀ {kvs:List (PV×PV)},(∀ x∈kvs,x.1.hk=true)->(kvs.map (·.1)).Nodup->∀ {j:Nat},(kvs.map (·.1))[j]?=some k->Mn k kvs=some j
 | [],_,_,_,hj=>nomatch hj
 | (p,q)::r,hall,hn,0,hj=>by
  rw [Fq,if_pos ((Tt (hall _ List.mem_cons_self) k).mpr (Option.some.inj hj))]
 | (p,q)::r,hall,hn,j+1,hj=>by
  obtain ⟨h1,h2⟩:=List.nodup_cons.mp hn
  have hj:(r.map (·.1))[j]?=some k:=hj
  rw [Fq,if_neg λ e=>h1 (show p∈r.map (·.1) from (show p=k from (Tt (hall _ List.mem_cons_self) k).mp e)▸List.mem_of_getElem? hj),U5 (λ x hx=>hall x (List.mem_cons_of_mem _ hx)) h2 hj]
  rfl
theorem Amx {k:PV} {kvs:List (PV×PV)} (hall:∀ x∈kvs,x.1.hk=true) (h:∀ x∈kvs,x.1≠k):Mn k kvs=none:=
 List.findIdx?_eq_none_iff.mpr λ x hx=>Bool.eq_false_iff.mpr λ e=>h x hx ((Tt (hall x hx) k).mp e)
theorem Af8 {w:World} {J:Aj} {h:Heap} {k:PV} {f:Value->Bool} {kvs:List (PV×PV)} {es:List DictEntry} (r:Bg w J h kvs es) (hf:∀ x∈kvs,∀ v,Ae J h x.1 v->f v=D9 x.1 k):
  es.findIdx? (λ e=>f e.key)=Mn k kvs:=by
 unfold Mn
 induction r with
 | nil=>rfl
 | @cons p q e l es rp _ _ _ ih=>
  rw [List.findIdx?_cons,List.findIdx?_cons,hf _ List.mem_cons_self _ rp,ih λ x hx=>hf x (List.mem_cons_of_mem _ hx)]
theorem Gz {p:PV} (h:p.kd=1):∃ x,p=.str x:=by cases p<;>first|exact ⟨_,rfl⟩|exact nomatch h
theorem Gy {p:PV} (h:p.kd=2):∃ x,p=.int x:=by cases p<;>first|exact ⟨_,rfl⟩|exact nomatch h
theorem Ax8 {p:PV} (h:p.kd=3):∃ x,p=.tup x:=by cases p<;>first|exact ⟨_,rfl⟩|exact nomatch h
open Classical in
theorem Ay5 {prog:Program} {w:World} {J:Aj} {h:Heap} {kvs:List (PV×PV)} {es:List DictEntry} (r:Bg w J h kvs es) (hall:∀ x∈kvs,x.1.kd=3/\x.1.hk=true):
  ∃ xs:List (List PV×Addr×Value),es=xs.map (entryOfKey (Ai6 prog w))/\(∀ x∈xs,(Ai6 prog w).is h x.1 x.2.1)/\xs.map (λ x=>PV.tup x.1)=kvs.map (·.1):=by
 induction r with
 | nil=>exact ⟨[],rfl,λ x hx=>absurd hx zzj,rfl⟩
 | @cons p q e l es rp _ hh _ ih=>
  obtain ⟨xs,h1,h2,h3⟩:=ih λ x hx=>hall x (zze _ hx)
  obtain ⟨hkd,hhk⟩:=hall _ zzf
  obtain ⟨t,rfl⟩:=Ax8 hkd
  obtain ⟨eh,ek,ev⟩:=e
  cases hh
  revert rp
  refine λ rp=>Cw (v:=ek) rp λ a vs n d tt rl=>?_
  exact ⟨(t,a,ev)::xs,congrArg (_::·) h1,λ x hx=>(List.mem_cons.mp hx).elim (λ e=>e▸⟨hhk,Adv (λ Z Z t=>⟨t,id⟩) 6 _ hhk _ (Ek n d tt rl)⟩) (h2 x),congrArg (PV.tup t::·) h3⟩
theorem Yk {w:World} {J:Aj} {h:Heap} {P:PV->Prop} {G:DictEntry->Prop} (hp:∀ p (e:DictEntry),P p->Ae J h p e.key->e.hash=Ah w p->G e) {kvs:List (PV×PV)} {es:List DictEntry} (r:Bg w J h kvs es) (hall:∀ x∈kvs,P x.1):∀ e∈es,G e:=by
 induction r with
 | nil=>exact λ e he=>absurd he zzj
 | @cons p q e l es rp _ hh _ ih=>exact λ e' he=>(List.mem_cons.mp he).elim (λ q=>q▸hp _ e (hall _ zzf) rp hh) (ih (λ x hx=>hall x (zze _ hx)) e')
section
variable {B:Aq} {A:Around} {J:Aj} {σ:PS} {s:Shared}
open Classical in
theorem Ash {E:Value->Shared->Prop} {a:Addr} {es:List DictEntry} {n:Nat} {kvs:List (PV×PV)} {k:PV} {kv:Value} {Q:Option Nat->Shared->Prop} (hu:A.units+30<cLine) (D:s.heap.get? a=some (dictOf es n)) (hk:Bw kvs) (rd:Bg B.w J s.heap kvs es)
  (kf:Co k kvs=true) (rk:Ae J s.heap k kv) (h:Q (Mn k kvs) s):wpAny (model B.prog B.w) A (dictFind a kv (Ah B.w k)) Q E s:=by
 obtain ⟨hh,hall⟩:=Ts kf hk
 cases k with
 | str x=>
  refine Ei rk λ t=>wpAny_dictFind_of (knd:=strKind B.prog B.w) (k:=⟨(Ba x).toArray⟩) (es:=es.toArray) (ep:=n) (beq_self_eq_true _) D rfl (λ e he=>Yk (P:=λ p=>p.kd=1) (G:=λ e=>∃ k,(strKind B.prog B.w).is k e.key=true/\e.hash=(strKind B.prog B.w).hash k) (λ p e hp rp hh=>?_) rd (λ x hx=>(hall x hx).1) e (List.mem_toArray.mp he)) ?_
  ·obtain ⟨z,rfl⟩:=Gz hp
   obtain ⟨t,e1⟩:=(rp:∃ t,e.key=.str ⟨(Ba z).toArray⟩ t)
   exact ⟨⟨(Ba z).toArray⟩,by rw [e1];exact beq_self_eq_true _,hh⟩
  ·rw [List.findIdx?_toArray,Af8 rd λ y hy v rv=>?_]
   ·exact h
   ·obtain ⟨z,hz⟩:=Gz (hall y hy).1
    rw [hz] at rv ⊢
    exact Ei rv λ t'=>(Fo z x).symm
 | int i=>
  refine Eh rk λ t=>wpAny_dictFind_of (knd:=intKind B.prog B.w) (k:=i) (es:=es.toArray) (ep:=n) (beq_self_eq_true i) D rfl (λ e he=>Yk (P:=λ p=>p.kd=2) (G:=λ e=>∃ k,(intKind B.prog B.w).is k e.key=true/\e.hash=(intKind B.prog B.w).hash k) (λ p e hp rp hh=>?_) rd (λ x hx=>(hall x hx).1) e (List.mem_toArray.mp he)) ?_
  ·obtain ⟨z,rfl⟩:=Gy hp
   obtain ⟨t,e1⟩:=(rp:∃ t,e.key=.int z t)
   exact ⟨z,by rw [e1];exact beq_self_eq_true z,hh⟩
  ·rw [List.findIdx?_toArray,Af8 rd λ y hy v rv=>?_]
   ·exact h
   ·obtain ⟨z,hz⟩:=Gy (hall y hy).1
    rw [hz] at rv ⊢
    exact Eh rv λ t'=>(H9 z i).symm
 | tup l=>
  refine Cw rk λ b vs nb db tt rl=>?_
  obtain ⟨xs,h1,h2,h3⟩:=Ay5 (prog:=B.prog) rd hall
  have hnd:(xs.map (·.1)).Nodup:=(List.pairwise_map.mp (show ((xs.map (·.1)).map PV.tup).Nodup from by rw [List.map_map];exact h3▸hk.2)).imp λ hne q=>hne (by rw [q])
  refine wpAny_dictFind_heap (knd:=Ai6 B.prog B.w) (k:=l) (xs:=xs) (es:=es.toArray) (ep:=n) (Nat.lt_of_le_of_lt (Nat.add_le_add_left (by decide) _) hu) ⟨hh,Adv (λ Z Z t=>⟨t,id⟩) 6 _ hh _ (Ek nb db tt rl)⟩ D rfl h1 h2 hnd (λ hno=>?_) (λ j p hj=>?_)
  ·rw [Amx (λ x hx=>(hall x hx).2) λ x hx e=>?_] at h
   ·exact h
   ·obtain ⟨y,hy,ey⟩:=List.mem_map.mp (show PV.tup l∈xs.map (λ x=>PV.tup x.1) from h3▸e▸List.mem_map.mpr ⟨x,hx,rfl⟩)
    obtain ⟨j,hj⟩:=List.mem_iff_getElem?.mp hy
    exact hno j y.2 (by rw [hj,<-Wx ey])
  ·rw [U5 (λ x hx=>(hall x hx).2) hk.2 (j:=j) (by rw [<- h3,List.getElem?_map,hj];rfl)] at h
   exact h
 | _=>exact ff hh
end
def Av8 (q:PV) (l:List (PV×PV)):Option PV:=@List.rec _ (λ Z=>Option PV) none (λ a Z ih=>@Bool.rec (λ Z=>Option PV) ih (@Prod.rec _ _ (λ Z=>Option PV) (λ Z v=>some v) a) (D9 a.1 q)) l
def Ih (q:PV) (l:List (PV×PV)) (n:Bool) (k:PV->Bool):Bool:=@Option.rec _ (λ Z=>Bool) n k (Av8 q l)
def Vy (q:PV) (v:PV) (l:List (PV×PV)) (k:List (PV×PV)->Bool):Bool:=@List.rec _ (λ Z=>(List (PV×PV)->Bool)->Bool) (λ k=>k [(q,v)]) (λ a r ih k=>@Prod.rec _ _ (λ Z=>Bool) (λ y Z=>bC (ih λ r=>k (a::r)) (k ((y,v)::r)) (D9 y q)) a) l k
def Apl (q:PV) (l:List (PV×PV)) (k:List (PV×PV)->Bool):Bool:=@List.rec _ (λ Z=>(List (PV×PV)->Bool)->Bool) (λ k=>k []) (λ a r ih k=>@Prod.rec _ _ (λ Z=>Bool) (λ y Z=>bC (ih λ r=>k (a::r)) (k r) (D9 y q)) a) l k
theorem Af7 {q:PV} {n:Bool} {k:PV->Bool} {C:Prop}:∀ {l:List (PV×PV)},Ih q l n k=true->(Mn q l=none->n=true->C)->(∀ i y,Mn q l=some i->l[i]?=some y->k y.2=true->C)->C
 | [],h,H,_=>H rfl h
 | (y,v)::r,h,H1,H2=>by
  have h:@Option.rec _ (λ Z=>Bool) n k (@Bool.rec (λ Z=>Option PV) (Av8 q r) (some v) (D9 y q))=true:=h
  rw [Fq] at H1 H2
  cases hb:D9 y q with
  | true=>rw [hb] at h H2;exact H2 0 (y,v) rfl rfl h
  | false=>
   rw [hb] at h H1 H2
   exact Af7 h (λ e=>H1 (by rw [e];rfl)) λ i z e=>H2 (i+1) z (by rw [e];rfl)
theorem Av9 {q v:PV} {C:Prop}:∀ {l:List (PV×PV)} {k:List (PV×PV)->Bool},Vy q v l k=true->(Mn q l=none->k (l++[(q,v)])=true->C)->(∀ i,Mn q l=some i->k (l.modify i λ x=>(x.1,v))=true->C)->C
 | [],k,h,H,_=>H rfl h
 | (y,u)::r,k,h,H1,H2=>by
  have h:bC (Vy q v r λ r=>k ((y,u)::r)) (k ((y,v)::r)) (D9 y q)=true:=h
  rw [Fq] at H1 H2
  cases hb:D9 y q with
  | true=>rw [hb] at h H2;exact H2 0 rfl h
  | false=>
   rw [hb] at h H1 H2
   exact Av9 h (λ e=>H1 (by rw [e];rfl)) λ i e=>H2 (i+1) (by rw [e];rfl)
theorem A1y {q:PV} {C:Prop} {i:Nat}:∀ {l:List (PV×PV)} {k:List (PV×PV)->Bool},Apl q l k=true->Mn q l=some i->(k (l.eraseIdx i)=true->C)->C:=λ {l}=>by
 induction l generalizing i with
 | nil=>exact λ Z e Z=>nomatch e
 | cons a r ih=>
  intro k h e H
  obtain ⟨y,u⟩:=a
  have h:bC (Apl q r λ r=>k ((y,u)::r)) (k r) (D9 y q)=true:=h
  rw [Fq] at e
  cases hb:D9 y q with
  | true=>rw [hb] at h e;cases e;exact H h
  | false=>
   rw [hb] at h e
   cases e':Mn q r with
   | none=>rw [e'] at e;exact nomatch e
   | some j=>rw [e'] at e;cases e;exact ih h e' H
section
variable {w:World} {J:Aj} {h:Heap}
theorem Bg.get {kvs:List (PV×PV)} {es:List DictEntry} (r:Bg w J h kvs es):∀ {i:Nat} {y:PV×PV},kvs[i]?=some y->∃ e,es[i]?=some e/\Ae J h y.1 e.key/\Ae J h y.2 e.val:=by
 induction r with
 | nil=>exact λ e=>nomatch e
 | @cons p' q' e' l es rp rq _ _ ih=>
  intro i y e
  cases i with
  | zero=>cases e;exact ⟨e',rfl,rp,rq⟩
  | succ i=>exact ih e
theorem Bg.modify {kvs:List (PV×PV)} {es:List DictEntry} {q:PV} {v:Value} (rv:Ae J h q v) (r:Bg w J h kvs es):∀ i:Nat,Bg w J h (kvs.modify i λ x=>(x.1,q)) (es.modify i λ e=>{e with val:=v}):=by
 induction r with
 | nil=>intro i;cases i<;>exact .nil
 | @cons p' q' e' l es rp rq hh rr ih=>
  intro i
  cases i with
  | zero=>exact .cons rp rv hh rr
  | succ i=>exact .cons rp rq hh (ih i)
theorem Bg.snoc {kvs:List (PV×PV)} {es:List DictEntry} {p q:PV} {e:DictEntry} (rp:Ae J h p e.key) (rq:Ae J h q e.val) (hh:e.hash=Ah w p) (r:Bg w J h kvs es):Bg w J h (kvs++[(p,q)]) (es++[e]):=by
 induction r with
 | nil=>exact .cons rp rq hh .nil
 | cons a b c _ ih=>exact .cons a b c ih
theorem Bg.erase {kvs:List (PV×PV)} {es:List DictEntry} (r:Bg w J h kvs es):∀ i:Nat,Bg w J h (kvs.eraseIdx i) (es.eraseIdx i):=by
 induction r with
 | nil=>intro i;cases i<;>exact .nil
 | @cons p' q' e' l es rp rq hh rr ih=>
  intro i
  cases i with
  | zero=>exact rr
  | succ i=>exact .cons rp rq hh (ih i)
end
theorem Qj {q:PV}:∀ (kvs:List (PV×PV)) (i:Nat),(kvs.modify i λ x=>(x.1,q)).map (·.1)=kvs.map (·.1)
 | [],0=>rfl
 | [],_+1=>rfl
 | _::_,0=>rfl
 | a::r,i+1=>congrArg (a.1::·) (Qj r i)
theorem Bw.modify {kvs:List (PV×PV)} {q:PV} (hk:Bw kvs) (i:Nat):Bw (kvs.modify i λ x=>(x.1,q)):=by
 obtain ⟨⟨k,h0,h⟩,hn⟩:=hk
 refine ⟨⟨k,h0,λ x hx=>?_⟩,by rw [Qj];exact hn⟩
 obtain ⟨y,hy,ey⟩:=List.mem_map.mp (Qj (q:=q) kvs i▸List.mem_map.mpr ⟨x,hx,rfl⟩:x.1∈kvs.map (·.1))
 exact ey▸h y hy
theorem Bw.erase {kvs:List (PV×PV)} (hk:Bw kvs) (i:Nat):Bw (kvs.eraseIdx i):=
 ⟨hk.1.elim λ k h=>⟨k,h.1,λ x hx=>h.2 x (List.mem_of_mem_eraseIdx hx)⟩,hk.2.sublist ((List.eraseIdx_sublist kvs i).map _)⟩
theorem Bw.snoc {kvs:List (PV×PV)} {k v:PV} (hk:Bw kvs) (kf:Co k kvs=true) (hi:Mn k kvs=none):Bw (kvs++[(k,v)]):=by
 obtain ⟨hh,hall⟩:=Ts kf hk
 refine ⟨⟨k.kd,A1o hh,λ x hx=>(List.mem_append.mp hx).elim (hall x) λ hx=>List.eq_of_mem_singleton hx▸⟨rfl,hh⟩⟩,?_⟩
 rw [List.map_append]
 refine List.nodup_append.mpr ⟨hk.2,List.nodup_cons.mpr ⟨zzj,List.nodup_nil⟩,λ a ha b hb e=>?_⟩
 obtain ⟨x,hx,ex⟩:=List.mem_map.mp ha
 exact Bool.eq_false_iff.mp (List.findIdx?_eq_none_iff.mp hi x hx) ((Tt (hall x hx).2 k).mpr (ex.trans (e.trans (List.eq_of_mem_singleton hb))))
structure DK (B:Aq) (J:Aj) (h:Heap) (a:Addr) (es:List DictEntry) (n:Nat) (kvs:List (PV×PV)) (k:PV) (kv:Value) (f:Bool):Prop where
 at_:h.get? a=some (dictOf es n)
 keys:Bw kvs
 rep:Bg B.w J h kvs es
 kf:Co k kvs=true
 rk:Ae J h k kv
 hf:f=true->n=kvs.length
section
variable {B:Aq} {A:Around} {E:Value->Shared->Prop} {J:Aj} {s:Shared} {a:Addr} {es:List DictEntry} {n:Nat} {kvs:List (PV×PV)} {k:PV} {kv:Value} {f:Bool}
theorem DK.hash {Q:Int->Shared->Prop} (hu:A.units+30<cLine) (x:DK B J s.heap a es n kvs k kv f) (h:∀ tk,DK B J s.heap a es n kvs k kv f->Q (Ah B.w k) {s with toks:=tk}):wpAny (model B.prog B.w) A (pyHash kv) Q E s:=
 Tz 6 k (Ts x.kf x.keys).1 kv A s _ x.rk (Nat.lt_of_le_of_lt (Nat.add_le_add_left (by decide) _) hu) (h _ x)
theorem DK.find {Q:Option Nat->Shared->Prop} (hu:A.units+30<cLine) (x:DK B J s.heap a es n kvs k kv f) (h:Q (Mn k kvs) s):wpAny (model B.prog B.w) A (dictFind a kv (Ah B.w k)) Q E s:=Ash hu x.at_ x.keys x.rep x.kf x.rk h
theorem Aig {Q:Option Value->Shared->Prop} {nb:Bool} {κ:PV->Bool} (hu:A.units+30<cLine) (x:DK B J s.heap a es n kvs k kv f) (e:Ih k kvs nb κ=true)
  (h1:∀ q v tk,κ q=true->Ae J s.heap q v->Q (some v) {s with toks:=tk}) (h2:nb=true->∀ tk,Q none {s with toks:=tk}):wpAny (model B.prog B.w) A (dictGet a kv) Q E s:=by
 unfold dictGet
 try with_reducible refine zzg ?_
 refine zza (x.hash hu λ tk y=>zza (DK.find (s:={s with toks:=tk}) hu y ?_))
 refine Af7 e (λ hi e=>?_) λ i z hi hz e=>?_
 ·rw [hi];exact wpAny_pure (h2 e _)
 ·rw [hi]
  obtain ⟨en,he,_,rq⟩:=x.rep.get hz
  refine zza (wpAny_dictEntries (s:={s with toks:=tk}) x.at_ rfl (zzb ?_))
  rw [List.getElem?_toArray,he]
  exact h1 z.2 en.val _ e rq
theorem Akm {Q:Unit->Shared->Prop} {q:PV} {v:Value} {κ:List (PV×PV)->Bool} (hu:A.units+30<cLine) (hz:kvs.length≤Bv) (x:DK B J s.heap a es n kvs k kv f) (e:Vy k q kvs κ=true)
  (h:∀ kvs' es' n' h' tk,κ kvs'=true->Heap.SameBut a s.heap h'->h'.get? a=some (dictOf es' n')->Bw kvs'->(f=true->n'=kvs'.length)->kvs'.length≤kvs.length+1 ->
   (∀ J' h'',Bg B.w J' h'' kvs es->Ae J' h'' k kv->Ae J' h'' q v->Bg B.w J' h'' kvs' es')->Q () {s with heap:=h',toks:=tk}):wpAny (model B.prog B.w) A (dictSet a kv v) Q E s:=by
 unfold dictSet
 try with_reducible refine zzg ?_
 refine zza (x.hash hu λ tk y=>?_)
 unfold dictSetHashed
 try with_reducible refine zzg ?_
 refine zza (DK.find (s:={s with toks:=tk}) hu y ?_)
 refine Av9 e (λ hi e=>?_) λ i hi e=>?_
 ·rw [hi]
  exact wpAny_bind (wpAny_rule (wpAny_updateDictKeys (hz:=by rw [List.size_toArray,x.rep.length];exact Nat.le_trans hz B0) (s:={s with toks:=tk}) x.at_ rfl (h _ (es++[⟨Ah B.w k,kv,v⟩]) (n+1) _ _ e (Heap.SameBut.update ..) ((Heap.get?_update_self _ x.at_ rfl).trans (congrArg (λ x=>some ({cls:=.type "dict",data:=Data.dict x (n+1)}:Obj)) (List.push_toArray _ _)))
   (x.keys.snoc x.kf hi) (λ e=>by rw [List.length_append,List.length_singleton,x.hf e]) (Nat.le_of_eq List.length_append) λ J' h'' r1 r2 r3=>r1.snoc (e:=⟨Ah B.w k,kv,v⟩) r2 r3 rfl)))
 ·rw [hi]
  exact wpAny_bind (wpAny_rule (wpAny_bind (wpAny_updateDict (s:={s with toks:=tk}) x.at_ rfl (wpAny_point (h _ (es.modify i (λ e=>{e with val:=v})) n _ _ e (Heap.SameBut.update ..) ((Heap.get?_update_self _ x.at_ rfl).trans (congrArg (λ x=>some ({cls:=.type "dict",data:=Data.dict x n}:Obj)) (by simp)))
   (x.keys.modify i) (λ e=>by rw [List.length_modify];exact x.hf e) (by rw [List.length_modify];exact Nat.le_succ _) λ J' h'' r1 r2 r3=>r1.modify r3 i)))))
theorem Aoo {Q:Unit->Shared->Prop} {q:PV} {v:Value} {κ:List (PV×PV)->Bool} (hu:A.units+30<cLine) (hz:kvs.length≤Bv) (x:DK B J s.heap a es n kvs k kv f) (rv:Ae J s.heap q v) (e:Vy k q kvs κ=true)
  (h:∀ kvs' h' tk o',κ kvs'=true->Heap.SameBut a s.heap h'->h'.get? a=some o'->Ef B.w J s.heap (.dict kvs' f) o'->Q () {s with heap:=h',toks:=tk}):wpAny (model B.prog B.w) A (dictSet a kv v) Q E s:=
 Akm hu hz x e λ kvs' es' n' h' tk e hs ho hk hf Z hr=>h kvs' h' tk _ e hs ho ⟨⟨rfl,rfl,rfl⟩,hk,es',n',rfl,hf,hr J s.heap x.rep x.rk rv⟩
end
end
section
section
variable {prog:Program} {w:World} {A:Around} {E:Value->Shared->Prop} {s:Shared}
theorem Ac8 {T:String} {name:Str} {id:String} {Bt:Builtin} {self:Value} {rest:List Value} {Q:Value->Shared->Prop} (slot:Slot T name id) (hT:s.TypeIs self T)
  (entry:entryFor table id=some Bt) (args:argsOk id ⟨self::rest,[]⟩)
  (h:wpAny (model prog w) A.in1 (Bt ⟨self::rest,[]⟩) (λ fin s'=>∃ v,fin=.done (.ret v)/\Q v s') E s):wpAny (model prog w) A (call (.builtin id) (self::rest)) Q E s:=
 call_meetsIn slot hT entry args (S:=λ A R s=>wpAny (model prog w) A.in1 (Bt ⟨self::rest,[]⟩) (λ fin s'=>∃ v,fin=.done (.ret v)/\R (.ok (.ret v)) s') (λ e s'=>R (.error e) s') s)
  (MeetsIn.of_wp λ A R s h=>h) h
end
abbrev KT:=PV->PS->Bool->Bool
def kL:KT:=λ p σ k=>Qq (λ i=>Qm i σ λ Z=>k) p
def kD:KT:=λ p σ k=>Qq (λ i=>V0 i σ λ Z Z=>k) p
def kS:KT:=λ p Z k=>El (λ Z=>k) p
def Any (B:Aq) (c:KT) (T:String):Prop:=∀ (s:Shared) (J:Aj) (σ:PS) (p:PV) (v:Value) (k:Bool),St B J σ s.heap->Ae J s.heap p v->c p σ k=true->s.TypeIs v T/\(∀ a,v=.ref a->∃ o,s.heap.get? a=some o/\o.dict=none)/\k=true
section
variable {B:Aq} {d:Nat} {ks:List (Str×NameKind)} {xs:List Str}
theorem Api:Any B kL "list":=λ s J σ p v k st r e=>Aa4 (k:=λ i=>Qm i σ λ Z=>k) e r λ i a e ea=>Cp (k:=λ Z=>k) e st ea λ l o vs n e Z ho h1 h2 Z Z Z=>⟨⟨o,ho,h1⟩,λ b q=>by cases q;exact ⟨o,ho,h2⟩,e⟩
theorem Apf:Any B kD "dict":=λ s J σ p v k st r e=>Aa4 (k:=λ i=>V0 i σ λ Z Z=>k) e r λ i a e ea=>Eo (k:=λ Z Z=>k) e st ea λ l f o vs n e Z ho h Z Z Z Z=>⟨⟨o,ho,h.1⟩,λ b q=>by cases q;exact ⟨o,ho,h.2.1⟩,e⟩
theorem A1w:Any B kS "str":=λ s J σ p v k st r e=>Aej (k:=λ Z=>k) e r λ i t e=>⟨typeIs_str s _ _,(λ b q=>nomatch q),e⟩
def eBM (c:KT) (F:Fn) (f:EF) (l:LF):EF:=λ ρ σ k=>f ρ σ λ p σ=>c p σ (l ρ σ λ ps σ=>F (p::ps) σ k)
theorem A2z {value:Expr} {nm:Str} {apos pos:Pos} {args:List Expr} {c:KT} {T id:String} {F:Fn} {f:EF} {l:LF} (hc:Any B c T) (pa:PlainAttrs T) (slot:Slot T nm id)
  (hty:typeOf (.builtin id)=pure (.type "method_descriptor")) (hF:SBi B id F) (hv:SE B d ks xs value f) (ha:SEL B d ks xs args l)
  (he:∀ env,∃ pl,eval (.Call (.Attribute value nm apos) args [] pos) env=(do
   let ov<-eval value env
   standAt apos.atName
   let (f,first)<-holding [ov] (getMethod ov nm pl)
   callWith pos f first (backTo pos (starEach args env)) [])):SE B d ks xs (.Call (.Attribute value nm apos) args [] pos) (eBM c F f l):=λ A s env ρ J σ hR hE hS k Q E e hQ=>by
 obtain ⟨pl,he⟩:=he env
 refine MethodCall_ (pl:=pl) (hv A s env ρ J σ hR hE hS _ _ E e λ v s1 J1 p σ1 e x1 r1=>?_) he
 obtain ⟨hT,hd,e⟩:=hc s1 J1 σ1 p v _ x1.st r1 e
 obtain ⟨h1,_,h3⟩:=ha A s1 env ρ J1 σ1 pos hR (hE.up x1) x1.st
 exact getMethod_builtin hT pa slot hty hd (callWith_builtin ((A9 _ _).trans h1) (Bo ((A9 _ _).trans h1) (h3 _ _ E e λ vs s2 J2 ps σ2 e x2 r2=>
  hF A s2 J2 σ2 (p::ps) (v::vs) (hR.mono (Nat.zero_le _)) x2.st (Bd (x2.up r1) r2.1) _ Q E e λ u s3 J3 q σ3 e x3 r3=>hQ u s3 J3 q σ3 e (x1.trans (x2.trans x3)) r3)))
end
theorem RepL.three {J:Aj} {h:Heap} {p q r:PV} {vs:List Value} {C:Prop} (x:RepL J h [p,q,r] vs) (H:∀ u v w,vs=[u,v,w]->Ae J h p u->Ae J h q v->Ae J h r w->C):C:=
 A8 (P:=λ vs'=>vs=vs'->C) x (λ v us a b e=>b.two λ w z e' c d=>H v w z (e.trans (e'▸rfl)) a c d) rfl
def Apm (k:PV) (σ:PS) (c:Nat->List (PV×PV)->Bool->Bool) (d:PV):Bool:=Qq (λ i=>V0 i σ λ kvs f=>bC false (c i kvs f) (Co k kvs)) d
theorem Cc.k {A:Around} (h:Cc A 0):A.in1.units+30<cLine:=Nat.lt_of_le_of_lt (by show A.units+1+30≤A.units+12*0+100;omega) h.2.1
section
variable {B:Aq}
theorem DK.of {J:Aj} {σ:PS} {s:Shared} {i:Nat} {a:Addr} {k:PV} {kv:Value} {c:List (PV×PV)->Bool->Bool} {C:Prop} (e:V0 i σ (λ kvs f=>bC false (c kvs f) (Co k kvs))=true) (st:St B J σ s.heap) (ea:J.l[i]?=some a) (rk:Ae J s.heap k kv)
  (H:∀ es n kvs f,DK B J s.heap a es n kvs k kv f->(a==sysModules)=false->c kvs f=true->C):C:=
 Eo (k:=λ kvs f=>bC false (c kvs f) (Co k kvs)) e st ea λ kvs f o es n e Z ho hc hk hd hf rd=>Bs e λ kf e=>H es n kvs f ⟨Bm hc hd▸ho,hk,rd,kf,rk,hf⟩ (st.low a (Aj.at ea)) e
@[elab_as_elim] theorem A0h {J:Aj} {σ:PS} {s:Shared} {k d:PV} {u kv:Value} {c:Nat->List (PV×PV)->Bool->Bool} {P:Value->Prop} (e:Apm k σ c d=true) (st:St B J σ s.heap) (ru:Ae J s.heap d u) (rk:Ae J s.heap k kv)
  (H:∀ i a es n kvs f,J.l[i]?=some a->DK B J s.heap a es n kvs k kv f->(a==sysModules)=false->c i kvs f=true->P (.ref a)):P u:=
 Aa4 (k:=λ i=>V0 i σ λ kvs f=>bC false (c i kvs f) (Co k kvs)) e ru λ i a e ea=>DK.of (c:=c i) e st ea rk λ es n kvs f x lo e=>H i a es n kvs f ea x lo e
theorem DK.typeIs {J:Aj} {s:Shared} {a:Addr} {es:List DictEntry} {n:Nat} {kvs:List (PV×PV)} {k:PV} {kv:Value} {f:Bool} (x:DK B J s.heap a es n kvs k kv f):s.TypeIs (.ref a) "dict":=⟨_,x.at_,rfl⟩
def Ap5:Fn:=λ ps σ k=>on3 ps λ d q z=>Apm q σ (λ Z kvs Z=>Ih q kvs (k z σ) λ v=>k v σ) d
theorem Atv:SBi B "dict.get" Ap5:=λ A s J σ ps vs hR st r k Q E e hQ=>Ayo e λ d q z hp e=>by
 subst hp
 refine r.three λ u kv zv hv ru rk rz=>?_
 subst hv
 refine A0h (c:=λ Z kvs Z=>Ih q kvs (k z σ) λ v=>k v σ) e st ru rk λ i a es n kvs f ea x lo e=>?_
 refine Ac8 PySem.F.slot_dict_get x.typeIs PySem.F.entry_dict_get (PySem.F.args_dict_get_3 _ _ _) ?_
 show wpAny _ _ (dictGet a kv >>= _) _ _ s
 refine zza (Aig hR.k x e (λ y v tk e ry=>?_) λ e tk=>?_)
 ·exact zzb ⟨v,rfl,hQ v _ J y σ e (.tok st (Ab _ _) tk) ry⟩
 ·show wpAny _ _ (Builtin.Dict.missed a kv >>= _) _ _ _
  exact zza (wpAny_missed_other lo (zzb ⟨zv,rfl,hQ zv _ J z σ e (.tok st (Ab _ _) tk) rz⟩))
section
variable {A:Around} {E:Value->Shared->Prop} {J:Aj} {s:Shared} {a:Addr} {es:List DictEntry} {n:Nat} {kvs:List (PV×PV)} {k:PV} {kv:Value} {f:Bool}
theorem Aml {Q:Value->Shared->Prop} {z:PV} {zv:Value} {nb:Bool} {κ:PV->Bool} (hu:A.units+30<cLine) (hz:kvs.length≤Bv) (x:DK B J s.heap a es n kvs k kv f) (rz:Ae J s.heap z zv) (e:Ih k kvs nb κ=true)
  (h1:∀ q v tk,κ q=true->Ae J s.heap q v->Q v {s with toks:=tk})
  (h2:nb=true->∀ h' tk o',Heap.SameBut a s.heap h'->h'.get? a=some o'->Ef B.w J s.heap (.dict (kvs++[(k,z)]) f) o'->Q zv {s with heap:=h',toks:=tk}):wpAny (model B.prog B.w) A (dictSetDefault a kv zv) Q E s:=by
 unfold dictSetDefault
 try with_reducible refine zzg ?_
 refine zza (x.hash hu λ tk y=>zza (DK.find (s:={s with toks:=tk}) hu y ?_))
 refine Af7 e (λ hi e=>?_) λ i z hi hz e=>?_
 ·rw [hi]
  exact wpAny_bind (wpAny_rule (wpAny_bind (wpAny_updateDictKeys (hz:=by rw [List.size_toArray,x.rep.length];exact Nat.le_trans hz B0) (s:={s with toks:=tk}) x.at_ rfl (wpAny_pure (h2 e _ _ _ (Heap.SameBut.update ..) (Heap.get?_update_self _ x.at_ rfl)
   ⟨⟨rfl,rfl,rfl⟩,x.keys.snoc x.kf hi,es++[⟨Ah B.w k,kv,zv⟩],n+1,congrArg (λ x=>Data.dict x (n+1)) (List.push_toArray _ _),(λ e=>by rw [List.length_append,List.length_singleton,x.hf e]),x.rep.snoc (e:=⟨Ah B.w k,kv,zv⟩) x.rk rz rfl⟩)))))
 ·rw [hi]
  obtain ⟨en,he,_,rq⟩:=x.rep.get hz
  refine zza (wpAny_dictEntries (s:={s with toks:=tk}) x.at_ rfl ?_)
  rw [List.getElem?_toArray,he]
  exact zza (wpAny_rule (zzb (h1 z.2 en.val _ e rq)))
theorem Ar7 {Q:Option DictEntry->Shared->Prop} {κ:PV->List (PV×PV)->Bool} (hu:A.units+30<cLine) (hz:kvs.length≤Bv) (x:DK B J s.heap a es n kvs k kv f) (e:Ih k kvs false (λ v=>Apl k kvs (κ v))=true)
  (h:∀ q en kvs' h' tk o',κ q kvs'=true->Ae J s.heap q en.val->Heap.SameBut a s.heap h'->h'.get? a=some o'->Ef B.w J s.heap (.dict kvs' false) o'->Q (some en) {s with heap:=h',toks:=tk}):wpAny (model B.prog B.w) A (Builtin.Dict.takeOut a kv) Q E s:=by
 unfold Builtin.Dict.takeOut
 try with_reducible refine zzg ?_
 refine zza (x.hash hu λ tk y=>zza (DK.find (s:={s with toks:=tk}) hu y ?_))
 refine Af7 e (λ Z e=>ff e) λ i z hi hzz e=>A1y e hi λ e=>?_
 rw [hi]
 obtain ⟨en,he,_,rq⟩:=x.rep.get hzz
 refine zza (wpAny_dictEntries (s:={s with toks:=tk}) x.at_ rfl ?_)
 rw [List.getElem?_toArray,he]
 exact wpAny_bind (wpAny_updateDictKeys (hz:=by rw [List.size_toArray,x.rep.length];exact Nat.le_trans hz B0) (s:={s with toks:=tk}) x.at_ rfl (wpAny_pure (h z.2 en _ _ _ _ e rq (Heap.SameBut.update ..) (Heap.get?_update_self _ x.at_ rfl)
  ⟨⟨rfl,rfl,rfl⟩,x.keys.erase i,es.eraseIdx i,n+1,congrArg (λ x=>Data.dict x (n+1)) (by simp),(λ e=>nomatch e),x.rep.erase i⟩)))
end
def Alm:Fn:=λ ps σ k=>on3 ps λ d q z=>Apm q σ (λ i kvs f=>bC false (Ih q kvs (Oa kvs [(q,z)] λ kvs=>Cb i (.dict kvs f) σ (k z)) λ v=>k v σ) (An kvs)) d
theorem Ajf:SBi B "dict.setdefault" Alm:=λ A s J σ ps vs hR st r k Q E e hQ=>Ayo e λ d q z hp e=>by
 subst hp
 refine r.three λ u kv zv hv ru rk rz=>?_
 subst hv
 refine A0h (c:=λ i kvs f=>bC false (Ih q kvs (Oa kvs [(q,z)] λ kvs=>Cb i (.dict kvs f) σ (k z)) λ v=>k v σ) (An kvs)) e st ru rk λ i a es n kvs f ea x lo e=>Bs e λ hz e=>?_
 refine Ac8 PySem.F.slot_dict_setdefault x.typeIs PySem.F.entry_dict_setdefault (PySem.F.args_dict_setdefault_3 _ _ _) ?_
 unfold Builtin.«dict.setdefault»
 refine zza ?_
 unfold Builtin.Dict.keyAndDefault
 refine zza (wpAny_notOrdered_dict x.typeIs ?_)
 show wpAny _ _ (pure (a,kv,some zv)) _ _ s
 refine zzb ?_
 show wpAny _ _ (if (a==sysModules)=true then _ else (dictSetDefault a kv zv >>= _)) _ _ s
 rw [if_neg (by rw [lo];exact Bool.false_ne_true)]
 refine zza (Aml hR.k (Ap hz) x rz e (λ y v tk e ry=>?_) λ e h' tk o' hs ho hr=>?_)
 ·exact zzb ⟨v,rfl,hQ v _ J y σ e (.tok st (Ab _ _) tk) ry⟩
 ·rw [I6] at e
  exact M0 e λ t' hp e=>by
   have y:=Nx.set st ea tk hs ho hp hr
   exact zzb ⟨zv,rfl,hQ zv _ J z _ e y (y.up rz)⟩
def Awk:Fn:=λ ps σ k=>on2 ps λ d q=>Eu (λ Z=>Apm q σ (λ i kvs Z=>bC false (Ih q kvs false λ v=>Apl q kvs λ kvs=>Cb i (.dict kvs false) σ (k v)) (An kvs)) d) q
theorem Aqm:SBi B "dict.pop" Awk:=λ A s J σ ps vs hR st r k Q E e hQ=>Yr e λ d q hp e=>by
 subst hp
 refine r.two λ u kv hv ru rk=>?_
 subst hv
 obtain ⟨m,rfl,e⟩:=S6 e
 obtain ⟨t,rfl⟩:=(rk:∃ t,kv=.int m t)
 refine A0h (c:=λ i kvs Z=>bC false (Ih (.int m) kvs false λ v=>Apl (.int m) kvs λ kvs=>Cb i (.dict kvs false) σ (k v)) (An kvs)) e st ru (C2 m t) λ i a es n kvs f ea x lo e=>Bs e λ hz e=>?_
 refine Ac8 PySem.F.slot_dict_pop x.typeIs PySem.F.entry_dict_pop (PySem.F.args_dict_pop_2 _ _) ?_
 unfold Builtin.«dict.pop»
 refine zza ?_
 unfold Builtin.Dict.keyAndDefault
 refine zza (wpAny_notOrdered_dict x.typeIs ?_)
 show wpAny _ _ (pure (a,Value.int m t,none)) _ _ s
 refine zzb ?_
 have hpart:(keyPart (Value.int m t)).isSome=true:=rfl
 simp only [hpart,if_true]
 refine zza (zzb ?_)
 simp only [Bool.false_eq_true,if_false]
 refine zza (Ar7 (κ:=λ v kvs=>Cb i (.dict kvs false) σ (k v)) hR.k (Ap hz) x e λ q en kvs' h' tk o' e rq hs ho hr=>M0 e λ t' hp e=>?_)
 have y:=Nx.set st ea tk hs ho hp hr
 simp only [Option.isNone_some,Bool.false_eq_true,if_false]
 exact zza (wpAny_letGo (zzb ⟨en.val,rfl,hQ en.val _ J q _ e y (y.up rq)⟩))
theorem Nz {w:World} {J:Aj} {h:Heap} {l:List PV} {vs:List Value} {n:Nat} (r:RepL J h l vs):Ef w J h (.list l) {cls:=.type "list",dict:=none,data:=.seq vs.toArray n,slots:=#[]}:=⟨rfl,rfl,rfl,vs,n,rfl,r⟩
theorem Apz {o:Obj} {vs:List Value} {n:Nat} (h1:o.cls=.type "list") (h2:o.dict=none) (h3:o.slots=#[]) (hd:o.data=.seq vs.toArray n):o={cls:=.type "list",dict:=none,data:=.seq vs.toArray n,slots:=#[]}:=by
 obtain ⟨c,d,dt,sl⟩:=o
 cases h1;cases h2;cases h3;cases hd
 rfl
theorem Nv {C:Prop} {J:Aj} {σ:PS} {s:Shared} {i:Nat} {a:Addr} {k:List PV->Bool} (e:Qm i σ k=true) (st:St B J σ s.heap) (ea:J.l[i]?=some a)
  (H:∀ l vs n,k l=true->s.heap.get? a=some {cls:=.type "list",dict:=none,data:=.seq vs.toArray n,slots:=#[]}->RepL J s.heap l vs->C):C:=Cp e st ea λ l o vs n e Z ho h1 h2 h3 hd r=>H l vs n e (Apz h1 h2 h3 hd▸ho) r
def Dx:Fn:=λ ps σ k=>on2 ps λ p v=>Qq (λ i=>Qm i σ λ l=>bC false (Oa l [v] λ l=>Cb i (.list l) σ (k .none)) (An l)) p
theorem Ajd:SBi B "list.append" Dx:=λ A s J σ ps vs hR st r k Q E e hQ=>Yr e λ p v hp e=>by
 subst hp
 refine r.two λ u x hv ru rx=>?_
 subst hv
 refine Aa4 (k:=λ i=>Qm i σ λ l=>bC false (Oa l [v] λ l=>Cb i (.list l) σ (k .none)) (An l)) e ru λ i a e ea=>Nv (k:=λ l=>bC false (Oa l [v] λ l=>Cb i (.list l) σ (k .none)) (An l)) e st ea λ l us n e ho rl=>Bs e λ hz e=>?_
 rw [I6] at e
 refine M0 e λ t' hp e=>wpAny_list_append_plain (items:=us.toArray) ⟨n,ho⟩ (λ h' hg hs=>?_) (by rw [List.size_toArray,rl.length];exact Nat.le_trans (Ap hz) B0)
 obtain ⟨m,hg⟩:=hg
 exact hQ .none _ J .none _ e (Nx.set st ea _ hs (o':={cls:=.type "list",dict:=none,data:=.seq (us++[x]).toArray m,slots:=#[]}) (by rw [hg];simp) hp (Nz (rl.append (Bd rx Cx)))) Zc
def Atm (l:List PV) (k:PV->List PV->Bool):Bool:=@List.rec _ (λ Z=>(PV->List PV->Bool)->Bool) (λ Z=>false) (λ a r ih k=>lC (k a []) (λ Z Z=>ih λ x r=>k x (a::r)) r) l k
theorem Awn {C:Prop}:∀ {l:List PV} {k:PV->List PV->Bool},Atm l k=true->(∀ r x,l=r++[x]->k x r=true->C)->C
 | [],_,h,_=>ff h
 | [a],k,h,H=>H [] a rfl h
 | a::b::r,k,h,H=>Awn (l:=b::r) (k:=λ x r=>k x (a::r)) h λ r' x e h=>H (a::r') x (congrArg (a::·) e) h
theorem RepL.snoc_inv {J:Aj} {h:Heap} {x:PV} {C:Prop}:∀ {l:List PV} {vs:List Value},RepL J h (l++[x]) vs->(∀ us v,vs=us++[v]->RepL J h l us->Ae J h x v->C)->C
 | [],vs,r,H=>RepL.one r λ v e rv=>H [] v e Cx rv
 | p::l,vs,r,H=>A8 (P:=λ vs'=>vs=vs'->C) (show RepL J h (p::(l++[x])) vs from r) (λ v w a b e=>b.snoc_inv λ us u e' c d=>H (v::us) u (e.trans (congrArg (v::·) e')) (Bd a c) d) rfl
end
end
section
theorem Amn (ws:List Value) (v:Value):((ws++[v]).toArray).eraseIdxIfInBounds ((ws++[v]).toArray.size - 1)=ws.toArray:=by
 have e:(ws++[v]).toArray.size - 1=ws.length:=by rw [List.size_toArray,List.length_append];rfl
 rw [e,List.eraseIdxIfInBounds_toArray,List.eraseIdx_append_of_length_le (Nat.le_refl _),Nat.sub_self]
 exact congrArg List.toArray (List.append_nil _)
theorem Atn (ws:List Value) (v:Value) (n:Nat):Obj.mapSeq (λ xs=>xs.eraseIdxIfInBounds ((ws++[v]).toArray.size - 1)) {cls:=.type "list",dict:=none,data:=.seq (ws++[v]).toArray n,slots:=#[]}={cls:=.type "list",dict:=none,data:=.seq ws.toArray (n+1),slots:=#[]}:=by
 show Obj.mk _ _ (Data.seq (((ws++[v]).toArray).eraseIdxIfInBounds ((ws++[v]).toArray.size - 1)) (if ((((ws++[v]).toArray).eraseIdxIfInBounds ((ws++[v]).toArray.size - 1)).size==(ws++[v]).toArray.size)=true then n else n+1)) _=_
 rw [Amn,if_neg (by simp)]
theorem Aup (vs:List Value) (j:Nat) (v:Value) (n:Nat):Obj.mapSeq (λ xs=>xs.setIfInBounds j v) {cls:=.type "list",dict:=none,data:=.seq vs.toArray n,slots:=#[]}={cls:=.type "list",dict:=none,data:=.seq (vs.set j v).toArray n,slots:=#[]}:=by
 show Obj.mk _ _ (Data.seq ((vs.toArray).setIfInBounds j v) (if (((vs.toArray).setIfInBounds j v).size==vs.toArray.size)=true then n else n+1)) _=_
 rw [List.setIfInBounds_toArray,if_pos (by rw [List.size_toArray,List.size_toArray,List.length_set];exact beq_self_eq_true _)]
section
variable {B:Aq} {d:Nat} {ks:List (Str×NameKind)} {xs:List Str}
def A5x:Fn:=λ ps σ k=>on1 ps λ p=>Qq (λ i=>Qm i σ λ l=>bC false (Atm l λ x l=>Cb i (.list l) σ (k x)) (An l)) p
theorem Atz:SBi B "list.pop" A5x:=λ A s J σ ps vs hR st r k Q E e hQ=>Oc e λ p hp e=>by
 subst hp
 refine r.one λ u hv ru=>?_
 subst hv
 refine Aa4 (k:=λ i=>Qm i σ λ l=>bC false (Atm l λ x l=>Cb i (.list l) σ (k x)) (An l)) e ru λ i a e ea=>Nv (k:=λ l=>bC false (Atm l λ x l=>Cb i (.list l) σ (k x)) (An l)) e st ea λ l us n e ho rl=>Bs e λ hz e=>Awn e λ l' x hl e=>M0 e λ t' hp e9=>?_
 have hz:us.toArray.size≤sizeLine:=by rw [List.size_toArray,rl.length];exact Nat.le_trans (Ap hz) B0
 subst hl
 refine rl.snoc_inv λ ws v hv r1 r2=>?_
 subst hv
 refine call_meets PySem.F.slot_list_pop ⟨_,ho,rfl⟩ PySem.F.entry_list_pop (PySem.F.args_list_pop_1 _) (PySem.MeetsSeq.list_pop_last a (ws++[v]).toArray n v (by simp) hz) ⟨ho,?_⟩
 have y:=Nx.set st ea s.toks (Heap.SameBut.update s.heap a (Obj.mapSeq λ xs=>xs.eraseIdxIfInBounds ((ws++[v]).toArray.size - 1))) (o':={cls:=.type "list",dict:=none,data:=.seq ws.toArray (n+1),slots:=#[]})
  ((Heap.get?_update_self _ ho rfl).trans (congrArg some (Atn ws v n))) hp (Nz r1)
 exact hQ v _ J x _ e9 y (y.up r2)
def Ys (i:Nat) (σ:PS) (kl:List PV->Bool) (kd:List (PV×PV)->Bool->Bool):Bool:=@PO.rec (λ Z=>Bool) kl kd F1 false F1 (gT σ.t i)
theorem Yt {C:Prop} {i:Nat} {σ:PS} {kl:List PV->Bool} {kd:List (PV×PV)->Bool->Bool} (h:Ys i σ kl kd=true) (H1:Qm i σ kl=true->C) (H2:V0 i σ kd=true->C):C:=by
 unfold Ys at h
 unfold Qm at H1
 unfold V0 at H2
 cases e:gT σ.t i with
 | list l=>rw [e] at h H1;exact H1 h
 | dict l f=>rw [e] at h H2;exact H2 h
 | _=>rw [e] at h;exact ff h
def ixV (l:List PV) (q:PV) (k:PV->Bool):Bool:=@PV.rec (λ Z=>List PV->(PV->Bool)->Bool) (λ Z=>Unit) (λ Z Z=>false) (λ Z Z Z=>false) (λ i l k=>nth l i k) (λ Z Z Z=>false) (λ Z Z Z Z=>false) (λ Z Z Z Z=>false) (λ Z Z Z Z=>false) (λ Z Z Z=>false) (λ Z Z Z=>false) (λ Z Z Z=>false) () (λ Z Z Z Z=>()) q l k
theorem Apd {l:List PV} {q:PV} {k:PV->Bool} (e:ixV l q k=true):Eu (λ i=>nth l i k) q=true:=by
 cases q<;>exact e
def Ar (p q:PV) (σ:PS) (k:PV->Bool):Bool:=@PV.rec (λ Z=>PV->PS->(PV->Bool)->Bool) (λ Z=>Unit) (λ Z Z Z=>false) (λ Z Z Z Z=>false) (λ Z Z Z Z=>false) (λ y q Z k=>Eu (λ i=>nth (Ba y) i λ c=>k (.str (Nat.succ c))) q) (λ l Z q Z k=>ixV l q k) (λ l Z q Z k=>ixV l q k) (λ Z Z Z Z Z=>false) (λ i q σ k=>Ys i σ (λ l=>ixV l q k) λ kvs Z=>bC false (Ih q kvs false k) (Co q kvs)) (λ Z Z Z Z=>false) (λ Z Z Z Z=>false) () (λ Z Z Z Z=>()) p q σ k
theorem Au2 {A:Around} {s:Shared} {J:Aj} {σ:PS} {p q:PV} {u v:Value} {k:PV->Bool} {value slice:Expr} {Q E:Value->Shared->Prop} (hR:Cc A 0) (e:Ar p q σ k=true) (st:St B J σ s.heap) (ru:Ae J s.heap p u) (rv:Ae J s.heap q v)
  (hs:∀ o i,subscripted slice false o i=operate [o,i] (getItem o i)) (h:∀ y w tk,k y=true->Ae J s.heap y w->Q w {s with toks:=tk}):wpAny (model B.prog B.w) A (subscriptTail value slice u v) Q E s:=by
 have key:∀ {a:Addr} {l:List PV} {vs:List Value},Eu (λ i=>nth l i k) q=true->s.heap.IsList a vs.toArray->RepL J s.heap l vs->wpAny (model B.prog B.w) A (subscriptTail value slice (.ref a) v) Q E s:=λ {a l vs} e ta ra=>
  Ud (k:=λ i=>nth l i k) e rv λ i t e=>Ao9 e ta ra hs λ y w e r=>h y w s.toks e r
 cases p with
 | str y=>exact Ei ru λ t=>Ud (k:=λ i=>nth (Ba y) i λ c=>k (.str (Nat.succ c))) e rv λ i t' e=>Apa e hs λ c w tk e r=>h _ w tk e r
 | tup l=>exact Cw ru λ a vs Z Z ta ra=>Ud (k:=λ i=>nth l i k) (Apd e) rv λ i t e=>Apb e ta ra hs λ y w e r=>h y w s.toks e r
 | lst l=>exact Mu ru λ a vs Z ta ra=>key (Apd e) ta ra
 | obj i=>
  refine F7 ru λ a ea=>Yt e (λ e=>Cp (k:=λ l=>ixV l q k) e st ea λ l o vs n e Z ho hc Z Z hd ra=>key (Apd e) ⟨o,ho,hc,n,hd⟩ ra) λ e=>DK.of (c:=λ kvs Z=>Ih q kvs false k) e st ea rv λ es n kvs f x lo e=>?_
  refine tail_any x.typeIs slot_dict_getitem.lookup ?_ (hs _ _)
  unfold getItem
  try with_reducible refine zzg ?_
  refine zza (wpAny_sequenceKey x.typeIs (by decide) ?_)
  refine zza (wpAny_callSpecial?_slot (name:=Str.ofString "__getitem__") x.typeIs slot_dict_getitem
   (wpAny_call_entry slot_dict_getitem x.typeIs entry_dict_getitem ?_ (args_dict_getitem _ _)))
  show wpAny _ _ (dictGet a v >>= _) _ _ s
  exact zza (Aig hR.k x e (λ y w tk e ry=>zzb ⟨w,rfl,zzb (h y w tk e ry)⟩) λ e Z=>ff e)
 | _=>exact ff e
def A1f (f g:EF):EF:=λ ρ σ k=>f ρ σ λ p σ=>g ρ σ λ q σ=>Ar p q σ λ y=>k y σ
theorem Azv {value slice:Expr} {pos:Pos} {f g:EF} (hf:SE B d ks xs value f) (hg:SE B d ks xs slice g) (hs:∀ o i,subscripted slice false o i=operate [o,i] (getItem o i)):
  SE B d ks xs (.Subscript value slice pos) (A1f f g):=λ A s env ρ J σ hR hE hS k Q E e hQ=>
 Subscript_ (hf A s env ρ J σ hR hE hS _ _ E e λ u s1 J1 p σ1 e x1 r1=>hg A s1 env ρ J1 σ1 hR (hE.up x1) x1.st _ _ E e λ v s2 J2 q σ2 e x2 r2=>
  Au2 (hR.mono (Nat.zero_le _)) e x2.st (x2.up r1) r2 hs λ y w tk e r=>hQ w _ J2 y σ2 e ((x1.trans x2).toks tk) r)
def Aqu (l:List PV) (n:Nat) (v:PV) (k:List PV->Bool):Bool:=@List.rec _ (λ Z=>Nat->(List PV->Bool)->Bool) (λ Z Z=>false) (λ x r ih n k=>@Nat.rec (λ Z=>Bool) (k (v::r)) (λ m Z=>ih m λ r=>k (x::r)) n) l n k
theorem Awu {v:PV}:∀ {l:List PV} {n:Nat} {k:List PV->Bool},Aqu l n v k=true->n<l.length/\k (l.set n v)=true
 | [],_,_,h=>ff h
 | _::_,0,_,h=>⟨Nat.zero_lt_succ _,h⟩
 | x::l,n+1,k,h=>(Awu (l:=l) (n:=n) (k:=λ r=>k (x::r)) h).imp Nat.succ_lt_succ id
theorem RepL.set {J:Aj} {h:Heap} {v:PV} {x:Value} (rv:Ae J h v x):∀ {l:List PV} {vs:List Value} (i:Nat),RepL J h l vs->RepL J h (l.set i v) (vs.set i x)
 | [],vs,i,r=>C8 (P:=λ vs=>RepL J h ([].set i v) (vs.set i x)) r Cx
 | p::l,vs,0,r=>A8 (P:=λ vs=>RepL J h (v::l) (vs.set 0 x)) r λ Z Z Z b=>Bd rv b
 | p::l,vs,i+1,r=>A8 (P:=λ vs=>RepL J h (p::l.set i v) (vs.set (i+1) x)) r λ Z Z a b=>Bd a (b.set rv i)
theorem Agc {prog:Program} {w:World} {A:Around} {E:Value->Shared->Prop} {s:Shared} {a:Addr} {vs:List Value} {m:Nat} {j:Nat} {i:Int} {t:Tok} {v:Value} {Q:Unit->Shared->Prop}
  (hi:i=j) (ho:s.heap.get? a=some {cls:=.type "list",dict:=none,data:=.seq vs.toArray m,slots:=#[]}) (hfit:j≤Bv) (hj:j<vs.toArray.size)
  (hQ:∀ h',Heap.SameBut a s.heap h'->h'.get? a=some {cls:=.type "list",dict:=none,data:=.seq (vs.set j v).toArray m,slots:=#[]}->Q () {s with heap:=h'}):
  wpAny (model prog w) A (setItem (.ref a) (.int i t) v) Q E s:=by
 have hT:s.TypeIs (.ref a) "list":=⟨_,ho,rfl⟩
 unfold setItem
 try with_reducible refine zzg ?_
 first|refine zza (zzb ?_)|skip
 refine zza (wpAny_sequenceKey hT (by decide) ?_)
 refine zza (wpAny_callSpecial?_slot (name:=Str.ofString "__setitem__") hT slot_list_setitem
  (wpAny_call_entry slot_list_setitem hT entry_list_setitem ?_ (args_list_setitem _ _ _)))
 show wpAny _ _ (Builtin.List.listSubscript? (.int i t) >>= _) _ _ s
 refine zza (wpAny_listSubscript_int (fitsIndex_of (hi▸Int.natCast_nonneg _) (hi▸As3 hfit)) ?_)
 clear hfit
 subst hi
 have hx':vs.toArray[j]?=some vs.toArray[j]:=Array.getElem?_eq_getElem hj
 show wpAny _ _ ((seqItemAt a j >>= λ r=>pure (r.map (j,·))) >>= _) _ _ s
 refine zza (zza (wpAny_seqItemAt ho rfl (zzb ?_)))
 rw [hx']
 show wpAny _ _ (setSeqItemAt a j v >>= _) _ _ s
 have hfin:(s.heap.update a (Obj.mapSeq (·.setIfInBounds j v))).get? a=some {cls:=.type "list",dict:=none,data:=.seq (vs.set j v).toArray m,slots:=#[]}:=
  (Heap.get?_update_self _ ho rfl).trans (congrArg some (Aup vs j v m))
 refine zza (wpAny_setSeqItemAt ho rfl ?_)
 first
  | exact zza (zzb (zzb ⟨.none,rfl,zzb (hQ _ (Heap.SameBut.update ..) hfin)⟩))
  | exact zzb ⟨.none,rfl,zzb (hQ _ (Heap.SameBut.update ..) hfin)⟩
def Od (p q v:PV) (σ:PS) (k:PS->Bool):Bool:=Qq (λ i=>Ys i σ (λ l=>Ip (λ n=>Aqu l n v λ l=>Cb i (.list l) σ k) q) λ kvs f=>bC false (bC false (Vy q v kvs λ kvs=>Cb i (.dict kvs f) σ k) (An kvs)) (Co q kvs)) p
theorem Alt {A:Around} {s:Shared} {J:Aj} {σ:PS} {p k q:PV} {u kv v:Value} {κ:PS->Bool} {Q:Unit->Shared->Prop} {E:Value->Shared->Prop} (hR:Cc A 0) (e:Od p k q σ κ=true) (st:St B J σ s.heap) (ru:Ae J s.heap p u) (rk:Ae J s.heap k kv) (rv:Ae J s.heap q v)
  (h:∀ s' σ',κ σ'=true->Nx B Ao J s J σ' s'->Q () s'):wpAny (model B.prog B.w) A (setItem u kv v) Q E s:=by
 obtain ⟨i,rfl,e⟩:=Alw e
 revert h
 refine F7 ru λ a ea h=>Yt e (λ e=>Nv (k:=λ l=>Ip (λ n=>Aqu l n q λ l=>Cb i (.list l) σ κ) k) e st ea λ l vs m e ho rl=>Ahh (k:=λ n=>Aqu l n q λ l=>Cb i (.list l) σ κ) e rk λ n t hn e=>
  (Awu e).elim λ hl e=>M0 e λ t' hp e=>Agc rfl ho hn (by rw [List.size_toArray,rl.length];exact hl) λ h' hs hg=>h _ _ e (Nx.set st ea s.toks hs hg hp (Nz (rl.set rv n)))) λ e=>DK.of (c:=λ kvs f=>bC false (Vy k q kvs λ kvs=>Cb i (.dict kvs f) σ κ) (An kvs)) e st ea rk λ es n kvs f x lo e=>Bs e λ hz e=>?_
 unfold setItem
 try with_reducible refine zzg ?_
 refine zza (wpAny_sequenceKey x.typeIs (by decide) ?_)
 refine zza (wpAny_callSpecial?_slot (name:=Str.ofString "__setitem__") x.typeIs slot_dict_setitem
  (wpAny_call_entry slot_dict_setitem x.typeIs entry_dict_setitem ?_ (args_dict_setitem _ _ _)))
 show wpAny _ _ (Builtin.Dict.notOrdered "__setitem__" ⟨[.ref a,kv,v],[]⟩ >>= _) _ _ s
 refine zza (wpAny_notOrdered_dict x.typeIs ?_)
 show wpAny _ _ (dictSet a kv v >>= _) _ _ s
 exact zza (Aoo hR.k (Ap hz) x rv e λ kvs' h' tk o' e hs ho hr=>M0 e λ t' hp e=>zzb ⟨.none,rfl,zzb (h _ _ e (Nx.set st ea tk hs ho hp hr))⟩)
def Awq (f g h:EF):C0:=λ ρ σ kn Z=>h ρ σ λ v σ=>f ρ σ λ p σ=>g ρ σ λ q σ=>Od p q v σ λ σ=>kn ρ σ
theorem Auy {o i value:Expr} {pos pos':Pos} {f g h:EF} (hf:SE B d ks xs o f) (hg:SE B d ks xs i g) (hh:SE B d ks xs value h) (hs:∀ env,swapsWith value (some (.Subscript o i pos')) pos.line env=pure false):
  SS B d ks xs (.Assign [.Subscript o i pos'] value pos) (Awq f g h):=λ A s env ρ J σ hR hE hS hO kn kr Q E e hN' hT=>
 wpAny_Assign_Subscript (hh A s env ρ J σ hR hE hS _ _ E e λ v s1 J1 q σ1 e x1 r1=>hf A s1 env ρ J1 σ1 hR (hE.up x1) x1.st _ _ E e λ u s2 J2 p σ2 e x2 r2=>
  hg A s2 env ρ J2 σ2 hR ((hE.up x1).up x2) x2.st _ _ E e λ kv s3 J3 k σ3 e x3 r3=>Alt (hR.mono (Nat.zero_le _)) e x3.st (x3.up r2) r3 ((x2.trans x3).up r1) λ s4 σ4 e x4=>hN' s4 J3 ρ σ4 e ((x1.trans (x2.trans (x3.trans x4))).e hE.ownOk) (hE.up (x1.trans (x2.trans (x3.trans x4))))) (hs env)
end
end
section
def As5 (c:Nat) (l:List Nat) (k:Bool->Bool):Bool:=@List.rec _ (λ Z=>Bool) (k false) (λ a Z ih=>bC ih (k true) (Nat.beq a c)) l
theorem Awd {c:Nat} {k:Bool->Bool}:∀ {l:List Nat},As5 c l k=true->k (decide (c∈l))=true
 | [],h=>h
 | a::l,h=>by
  have h:bC (As5 c l k) (k true) (Nat.beq a c)=true:=h
  cases hb:Nat.beq a c with
  | true=>rw [hb] at h;rw [decide_eq_true (Nat.eq_of_beq_eq_true hb▸List.mem_cons_self)];exact h
  | false=>
   rw [hb] at h
   rw [decide_eq_decide.mpr (List.mem_cons.trans (or_iff_right λ e=>Nat.ne_of_beq_eq_false hb e.symm))]
   exact Awd h
def M1 (x:Nat) (v:Value):Bool:=match v with
 | .str y _=>y==(⟨(Ba x).toArray⟩:Str)
 | _=>false
def X2 (x:Nat) (l:List PV) (k:Bool->Bool):Bool:=@List.rec _ (λ Z=>(Bool->Bool)->Bool) (λ k=>k false) (λ p Z ih k=>El (λ y=>bC (ih k) (ih λ Z=>k true) (Nat.beq y x)) p) l k
theorem Afg {x:Nat} {t:Tok} {A:Around} {s:Shared} {J:Aj}:∀ {l:List PV} {vs:List Value} {k:Bool->Bool},X2 x l k=true->RepL J s.heap l vs->(∀ y∈vs,SeqAt.EqAt A s y (.str ⟨(Ba x).toArray⟩ t) (M1 x y))/\k (vs.any (M1 x))=true
 | [],vs,k,e,r=>C8 (P:=λ vs=>(∀ y∈vs,SeqAt.EqAt A s y (.str ⟨(Ba x).toArray⟩ t) (M1 x y))/\k (vs.any (M1 x))=true) r ⟨λ Z h=>absurd h zzj,e⟩
 | p::l,vs,k,e,r=>A8 (P:=λ vs=>(∀ y∈vs,SeqAt.EqAt A s y (.str ⟨(Ba x).toArray⟩ t) (M1 x y))/\k (vs.any (M1 x))=true) r λ v w a b=>by
  refine Aej (k:=λ y=>bC (X2 x l k) (X2 x l λ Z=>k true) (Nat.beq y x)) e a λ y t' e=>?_
  have key:∀ {k':Bool->Bool},X2 x l k'=true->(∀ b,k' b=k (Nat.beq y x||b))->(∀ z∈Value.str ⟨(Ba y).toArray⟩ t'::w,SeqAt.EqAt A s z (.str ⟨(Ba x).toArray⟩ t) (M1 x z))/\k ((Value.str ⟨(Ba y).toArray⟩ t'::w).any (M1 x))=true:=λ {k'} e hk=>by
   obtain ⟨h1,h2⟩:=Afg (k:=k') e b
   refine ⟨λ z hz=>(List.mem_cons.mp hz).elim (λ q=>q▸SeqAt.EqAt.str_str _ _ _ _) (h1 z),?_⟩
   rw [List.any_cons,show M1 x (.str ⟨(Ba y).toArray⟩ t')=Nat.beq y x from (Fo y x).symm,<-hk]
   exact h2
  cases hb:Nat.beq y x with
  | true=>rw [hb] at e key;exact key e λ Z=>rfl
  | false=>rw [hb] at e key;exact key (k':=k) e λ Z=>rfl
section
variable {B:Aq}
def inV (p q:PV) (σ:PS) (k:Bool->Bool):Bool:=vC false F1 F1 (λ x=>El (λ a=>lC false (λ c r=>lC (As5 c (Ba x) k) F2 r) (Ba a)) p) (λ l=>El (λ x=>X2 x l k) p) (λ l=>El (λ x=>X2 x l k) p) F2
 (λ i=>Ys i σ (λ l=>El (λ x=>X2 x l k) p) λ kvs Z=>bC false (Ih p kvs (k false) λ Z=>k true) (Co p kvs)) F1 q
theorem Ao6 {A:Around} {s:Shared} {J:Aj} {σ:PS} {p q:PV} {u v:Value} {k:Bool->Bool} {op:CmpOp} {g:Bool->Bool} {Q E:Value->Shared->Prop} (hR:Cc A 0) (e:inV p q σ k=true) (st:St B J σ s.heap) (ru:Ae J s.heap p u) (rv:Ae J s.heap q v)
  (hs:∀ (x y:Str) t t',Q (.bool (g (!(Builtin.Str.occurrences x y 0 x.length 1).isEmpty))) s->wpAny (model B.prog B.w) A (compareOp op (.str y t) (.str x t')) Q E s)
  (ht:∀ (x:Nat) t a (vs:List Value),s.heap.IsTuple a vs.toArray->(∀ y∈vs,SeqAt.EqAt A.in1 s y (.str ⟨(Ba x).toArray⟩ t) (M1 x y))->Q (.bool (g (vs.any (M1 x)))) s->wpAny (model B.prog B.w) A (compareOp op (.str ⟨(Ba x).toArray⟩ t) (.ref a)) Q E s)
  (hl:∀ (x:Nat) t a (vs:List Value),s.heap.IsList a vs.toArray->(∀ y∈vs,SeqAt.EqAt A.in1 s y (.str ⟨(Ba x).toArray⟩ t) (M1 x y))->Q (.bool (g (vs.any (M1 x)))) s->wpAny (model B.prog B.w) A (compareOp op (.str ⟨(Ba x).toArray⟩ t) (.ref a)) Q E s)
  (hd:∀ a,wpAny (model B.prog B.w) A (contains (.ref a) u) (λ b s'=>Q (.bool (g b)) s') E s->wpAny (model B.prog B.w) A (compareOp op u (.ref a)) Q E s)
  (h:∀ b tk,k b=true->Q (.bool (g b)) {s with toks:=tk}):wpAny (model B.prog B.w) A (compareOp op u v) Q E s:=by
 have key:∀ {a:Addr} {l:List PV} {vs:List Value},El (λ x=>X2 x l k) p=true->s.heap.IsList a vs.toArray->RepL J s.heap l vs->wpAny (model B.prog B.w) A (compareOp op u (.ref a)) Q E s:=λ {a l vs} e ta ra=>
  Aej (k:=λ x=>X2 x l k) e ru λ x t e=>hl x t a vs ta (Afg e ra).1 (h _ s.toks (Afg (t:=t) (A:=A.in1) e ra).2)
 cases q with
 | str x=>exact Ei rv λ t=>Aej (k:=λ a=>lC false (λ c r=>lC (As5 c (Ba x) k) F2 r) (Ba a)) e ru λ a t' e=>hs _ _ _ _ (by
   cases ha:Ba a with
   | nil=>rw [ha] at e;exact ff e
   | cons c r=>
    rw [ha] at e
    cases r with
    | nil=>rw [StrLaws.found_one];exact h _ s.toks (Awd e)
    | cons _ _=>exact ff e)
 | tup l=>exact Cw rv λ a vs Z Z ta ra=>Aej (k:=λ x=>X2 x l k) e ru λ x t e=>ht x t a vs ta (Afg e ra).1 (h _ s.toks (Afg (t:=t) (A:=A.in1) e ra).2)
 | lst l=>exact Mu rv λ a vs Z ta ra=>key e ta ra
 | obj i=>
  refine F7 rv λ a ea=>Yt e (λ e=>Cp (k:=λ l=>El (λ x=>X2 x l k) p) e st ea λ l o vs n e Z ho hc Z Z hd ra=>key e ⟨o,ho,hc,n,hd⟩ ra) λ e=>DK.of (c:=λ kvs Z=>Ih p kvs (k false) λ Z=>k true) e st ea ru λ es n kvs f x lo e=>hd a ?_
  unfold contains
  try with_reducible refine zzg ?_
  refine zza (wpAny_specialOf x.typeIs slot_dict_contains.lookup ?_)
  show wpAny _ _ (if (some (Value.builtin "dict.__contains__")==some Value.none)=true then _ else _) _ E s
  rw [if_neg (by rw [beq_builtin_none];exact Bool.false_ne_true)]
  refine zza (wpAny_callSpecialUnlessNone?_slot (name:=Str.ofString "__contains__") x.typeIs slot_dict_contains
   (wpAny_call_entry slot_dict_contains x.typeIs entry_dict_contains ?_ (args_dict_contains _ _)))
  show wpAny _ _ (dictGet a u >>= _) _ _ s
  refine zza (Aig hR.k x e (λ y v tk e Z=>?_) λ e tk=>?_)
  ·show wpAny _ _ (PySem.ret (.bool true)) _ _ _
   exact zzb ⟨_,rfl,wpAny_truthy_bool (h true tk e)⟩
  ·show wpAny _ _ (Builtin.Dict.pendingKey? a u >>= _) _ _ _
   exact zza (wpAny_pendingKey_other lo (zzb ⟨_,rfl,wpAny_truthy_bool (h false tk e)⟩))
 | _=>exact ff e
def pIn:CO:=λ p q σ k=>inV p q σ λ b=>k b σ
def Ap7:CO:=λ p q σ k=>inV p q σ (nt λ b=>k b σ)
theorem A2w:SC B .In pIn:=λ A s J σ p q u v hR st ru rv k Q E e hQ=>
 Ao6 (g:=λ b=>b) hR e st ru rv (λ x y t t' h=>PyProof.Rows.in_str h) (λ x t a vs ta he h=>SeqAt.in_tupleAt (M1 x) ta (λ y hy=>he y (List.mem_toArray.mp hy)) (by rw [List.any_toArray];exact h)) (λ x t a vs ta he h=>SeqAt.in_listAt (M1 x) ta (λ y hy=>he y (List.mem_toArray.mp hy)) (by rw [List.any_toArray];exact h))
  (λ a h=>by show wpAny _ _ (do return .bool (<- contains (.ref a) u)) Q E s;exact zza (wpAny_mono h (λ b s' h=>zzb h) λ Z Z x=>x)) λ b tk e=>hQ b _ J σ e (.tok st (Ab _ _) tk)
theorem Aqr:SC B .NotIn Ap7:=λ A s J σ p q u v hR st ru rv k Q E e hQ=>
 Ao6 (g:=not) hR e st ru rv (λ x y t t' h=>PyProof.Rows.notIn_str h) (λ x t a vs ta he h=>SeqAt.notIn_tupleAt (M1 x) ta (λ y hy=>he y (List.mem_toArray.mp hy)) (by rw [List.any_toArray];exact h)) (λ x t a vs ta he h=>SeqAt.notIn_listAt (M1 x) ta (λ y hy=>he y (List.mem_toArray.mp hy)) (by rw [List.any_toArray];exact h))
  (λ a h=>by show wpAny _ _ (do return .bool (!(<- contains (.ref a) u))) Q E s;exact zza (wpAny_mono h (λ b s' h=>zzb h) λ Z Z x=>x)) λ b tk e=>hQ (!b) _ J σ (Qg (k:=λ b=>k b σ) e) (.tok st (Ab _ _) tk)
end
end
section
inductive It where
 | fix (l:List PV)
 | ol (i j:Nat)
 | od (i j n:Nat)
 | en (i j:Nat)
 | zp (l:List PV) (k:Nat)
 | em (l:List PV) (j:Nat)
def G7 (i:It) (σ:PS) (kd:Bool) (ki:PV->It->Bool):Bool:=@It.rec (λ Z=>PS->Bool->(PV->It->Bool)->Bool)
 (λ l Z kd ki=>lC kd (λ x r=>ki x (.fix r)) l)
 (λ i j σ kd ki=>Qm i σ λ l=>@Option.rec _ (λ Z=>Bool) kd (λ x=>nF (λ n=>ki x (.ol i n)) (Nat.add j 1)) (Aiy l j))
 (λ i j n σ kd ki=>V0 i σ λ kvs f=>bC false (bC false (@Option.rec _ (λ Z=>Bool) kd (λ x=>@Prod.rec _ _ (λ Z=>Bool) (λ x Z=>nF (λ m=>ki x (.od i m n)) (Nat.add j 1)) x) (Aiy kvs j)) (Nat.beq (len kvs) n)) f)
 (λ i j σ kd ki=>Qm i σ λ l=>@Option.rec _ (λ Z=>Bool) kd (λ x=>nF (λ n=>ki (.tup [.int (Int.ofNat j),x]) (.en i n)) (Nat.add j 1)) (Aiy l j))
 (λ l k σ kd ki=>@PO.rec (λ Z=>Bool) F1 F2 F1 (lC kd (λ x r=>ki x (.zp r k)) l) F1 (gT σ.t k))
 (λ l j Z kd ki=>lC kd (λ x r=>nF (λ n=>ki (.tup [.int (Int.ofNat j),x]) (.em r n)) (Nat.add j 1)) l) i σ kd ki
structure ItP (B:Aq) (A:Around) (tg:Expr) (I:Addr) (own:Addr->Prop) (R:It->Aj->Heap->Prop):Prop where
 step:∀ (s:Shared) (J:Aj) (σ:PS) (i:It) (kd:Bool) (ki:PV->It->Bool) (Q:Option Value->Shared->Prop) (Q':Value->Shared->Prop) (E:Value->Shared->Prop),R i J s.heap->St B J σ s.heap->G7 i σ kd ki=true ->
  (kd=true->∀ s',Grow0 own J J s.heap s'.heap->Sm s s'->St B J σ s'.heap->Q none s') ->
  (∀ v s',wpAny (model B.prog B.w) A (letOwnedTupleGo tg (.ref I) v) (λ Z s2=>Q' v s2) E s'->Q (some v) s') ->
  (∀ v s' x i',ki x i'=true->Nx B own J s J σ s'->Ae J s'.heap x v->R i' J s'.heap->Q' v s') ->
  wpAny (model B.prog B.w) A (pyNext (.ref I)) Q E s
 self:∀ (s:Shared) (J:Aj) (i:It) (Q:Value->Shared->Prop) (E:Value->Shared->Prop),R i J s.heap->Q (.ref I) s->wpAny (model B.prog B.w) A (pyIter (.ref I)) Q E s
 stable:∀ (i:It) (J J':Aj) (h h':Heap) (own':Addr->Prop),R i J h->Mv own' J J' h h'->(∀ b,own' b->¬ own b)->A0 own' J h->Do J h->R i J' h'
 ok:∀ (i:It) (J:Aj) (h:Heap),R i J h->A0 own J h
abbrev IF:=Ax->CM It
def SI (B:Aq) (d:Nat) (ks:List (Str×NameKind)) (xs:List Str) (tg it:Expr) (f:IF):Prop:=
 ∀ (A:Around) (s:Shared) (env:Env) (ρ:Ax) (J:Aj) (σ:PS),Cc A d->As ks xs env ρ J s.heap->St B J σ s.heap ->
  ∀ (k:It->PS->Bool) (Q:Value->Shared->Prop) (E:Value->Shared->Prop),f ρ σ k=true ->
  (∀ I s' J' own R i σ',k i σ'=true->Nx B Ao J s J' σ' s'->ItP B A tg I own R->R i J' s'.heap->(∀ b,own b->s.heap.get? b=none)->Q (.ref I) s') ->
  wpAny (model B.prog B.w) A (eval it env) (λ x s₁=>wpAny (model B.prog B.w) A (pyIter x) Q E s₁) E s
abbrev TF:=PV->Ax->PS->(Ax->PS->Bool)->Bool
def SA (O:Env->Addr->Prop) (B:Aq) (d:Nat) (ks:List (Str×NameKind)) (xs:List Str) (tg:Expr) (t:TF):Prop:=
 ∀ (A:Around) (s:Shared) (env:Env) (ρ:Ax) (J:Aj) (σ:PS) (p:PV) (v:Value),Cc A d->As ks xs env ρ J s.heap->St B J σ s.heap->(∀ b,O env b->B.h₀.get? b=none)->Ae J s.heap p v ->
  ∀ (k:Ax->PS->Bool) (Q:Unit->Shared->Prop) (E:Value->Shared->Prop),t p ρ σ k=true ->
  (∀ s' J' ρ' σ',k ρ' σ'=true->Nx B (O env) J s J' σ' s'->As ks xs env ρ' J' s'.heap->Q () s')->wpAny (model B.prog B.w) A (assign tg env v) Q E s
def Kb (a b:Addr->Prop):Addr->Prop:=λ x=>a x\/b x
theorem Nx.absorb {B:Aq} {a b:Addr->Prop} {J J' J'':Aj} {σ' σ'':PS} {s s' s'' s3:Shared} (x:Nx B Ao J s J' σ' s') (y:Nx B (Kb a b) J' s' J'' σ'' s'') (g3:Grow0 a J'' J'' s''.heap s3.heap) (m3:Sm s'' s3) (st3:St B J'' σ'' s3.heap)
  (hn:∀ x,a x->s.heap.get? x=none) (hb:∀ x o,b x->s.heap.get? x=some o->x∉J.l) (ok:A0 b J s.heap):Nx B b J s J'' σ'' s3:=by
 have hk:∀ z o,s.heap.get? z=some o->z∉J.l->s'.heap.get? z=some o/\z∉J'.l/\¬ a z:=λ z o e n=>⟨x.g.keep z o e n λ q=>q,Ch.nnl x.g.toGrow0 e n,λ q=>nomatch (hn z q).symm.trans e⟩
 refine ⟨⟨⟨x.g.pre.trans y.g.pre,λ z o e n m=>?_,λ z q=>?_,y.g.eta.trans x.g.eta⟩,λ z o m e=>?_⟩,x.m.trans (y.m.trans m3),st3,x.id,ok⟩
 ·obtain ⟨e1,n1,na⟩:=hk z o e n
  have e2:=y.g.keep z o e1 n1 λ q=>q.elim na m
  exact g3.keep z o e2 (Ch.nnl y.g.toGrow0 e1 n1) na
 ·refine (y.g.new z q).elim (x.g.new z) λ q=>?_
  by_cases hz:z∈J.l
  ·exact .inl hz
  ·refine .inr ?_
   cases e:s.heap.get? z with
   | none=>rfl
   | some o=>exact nomatch (hk z o e hz).1.symm.trans q
 ·obtain ⟨e1,n1,na⟩:=hk z o e (hb z o m e)
  obtain ⟨o2,e2⟩:=y.g.live z o (.inr m) e1
  exact ⟨o2,g3.keep z o2 e2 (Ch.nnl y.g.toGrow0 e1 n1) na⟩
theorem As.ownDead {ks:List (Str×NameKind)} {xs:List Str} {env:Env} {ρ:Ax} {J:Aj} {h:Heap} (x:As ks xs env ρ J h) {b:Addr} (q:Ck env b):¬ J.has b/\∃ o,h.get? b=some o:=
 q.elim (λ e=>e▸⟨x.notId,x.at_.elim λ m q=>q.1.elim λ o q=>⟨o,q.elim λ es q=>q.elim λ ep q=>q.1⟩⟩) λ q=>q.elim λ n q=>⟨(x.cellsNot n b q).1,(x.cellIs n b q).elim λ v r=>r.elim λ o r=>⟨o,r.1⟩⟩
theorem As.but {ks:List (Str×NameKind)} {xs:List Str} {env:Env} {ρ:Ax} {own:Addr->Prop} {J J':Aj} {h h':Heap} (x:As ks xs env ρ J h) (g:Grow0 own J J' h h') (ok:A0 own J h) (hi:Do J h) (hno:∀ b,Ck env b->¬ own b):As ks xs env ρ J' h':=x.up0 g.mv ok hi (hno _ (.inl rfl)) λ n c q=>hno _ (.inr ⟨n,q⟩)
section
variable {B:Aq} {d:Nat} {ks:List (Str×NameKind)} {xs:List Str}
def Ej (t:TF) (f:C0) (n:Nat) (i:It):C0:=λ ρ σ kn kr=>@Nat.rec (λ Z=>It->Ax->PS->Bool) (λ Z Z Z=>false) (λ Z ih i ρ σ=>G7 i σ (kn ρ σ) λ x i'=>t x ρ σ λ ρ σ=>f ρ σ (ih i') kr) n i ρ σ
def A2r (n:Nat) (it:IF) (t:TF) (f:C0):C0:=λ ρ σ kn kr=>it ρ σ λ i σ=>Ej t f n i ρ σ kn kr
theorem Az5 {tg it:Expr} {body:List Stmt} {pos:Pos} {fi:IF} {t:TF} {f:C0} (n:Nat) (hi:SI B d ks xs tg it fi) (ht:SA Ck B d ks xs tg t) (hb:SSs B d ks xs body f)
  (hs:∀ (env:Env) x,foldedSetIterable it env x=pure x):SS B d ks xs (.For tg it body [] pos) (A2r n fi t f):=λ A s env ρ J σ hR hE hS hO kn kr Q E e hN hT=>by
 refine wpAny_For (hi A s env ρ J σ hR hE hS _ _ E e λ I s1 J1 own R i σ1 e x1 P r1 hown=>?_) (hs env)
 have hno:∀ b,Ck env b->¬ own b:=λ b q q'=>(hE.ownDead q).2.elim λ o eo=>nomatch (hown b q').symm.trans eo
 have ok1:A0 (Kb own (Ck env)) J1 s1.heap:=λ b q=>q.elim (P.ok _ _ _ r1 b) ((hE.up x1).ownOk b)
 have hd:∀ x o,Ck env x->s.heap.get? x=some o->x∉J.l:=λ x o q Z=>Aj.nl (hE.ownDead q).1
 refine codeAny_forLoop_any (λ k s2=>∃ ρ2 J2 σ2 i2,As ks xs env ρ2 J2 s2.heap/\Ej t f k i2 ρ2 σ2 kn kr=true/\Nx B (Kb own (Ck env)) J1 s1 J2 σ2 s2/\R i2 J2 s2.heap) ?_ n ⟨ρ,J1,σ1,i,hE.up x1,e,.refl x1.st ok1,r1⟩
 rintro k s2 ⟨ρ2,J2,σ2,i2,hE2,e,x2,r2⟩
 cases k with
 | zero=>exact ff e
 | succ k=>
  refine P.step s2 J2 σ2 i2 (kn ρ2 σ2) (λ x i'=>t x ρ2 σ2 λ ρ σ=>f ρ σ (λ ρ σ=>Ej t f k i' ρ σ kn kr) kr) _ _ _ r2 x2.st e (λ e s3 g3 m3 st3=>?_) (λ v s3 h=>h) λ v s3 x i' e x3 rv r3=>?_
  ·exact wpAny_execs_nil (hN s3 J2 ρ2 σ2 e (x1.absorb x2 g3 m3 st3 hown hd hE.ownOk) (hE2.but g3 (P.ok _ _ _ r2) x2.st.idOk hno))
  ·have hE3:=hE2.but x3.g.toGrow0 x3.ok x3.id hno
   have ok2:A0 (Kb own (Ck env)) J2 s2.heap:=λ b q=>q.elim (x3.ok b) (hE2.ownOk b)
   have y3:=x2.trans (x3.w (λ Z q=>.inl q) ok2)
   have ok3:A0 (Kb own (Ck env)) J2 s3.heap:=λ b q=>q.elim (P.ok _ _ _ r3 b) (hE3.ownOk b)
   refine ht A s3 env ρ2 J2 σ2 x v hR hE3 x3.st hO rv _ _ _ e λ s4 J4 ρ4 σ4 e x4 hE4=>?_
   have r4:=P.stable i' J2 J4 _ _ _ r3 x4.g.toGrow0.mv hno x4.ok x4.id
   have y4:=y3.trans (x4.w (λ Z q=>.inr q) ok3)
   have ok4:A0 (Kb own (Ck env)) J4 s4.heap:=λ b q=>q.elim (P.ok _ _ _ r4 b) (hE4.ownOk b)
   refine hb A s4 env ρ4 J4 σ4 hR hE4 x4.st hO _ _ _ _ e (λ s5 J5 ρ5 σ5 e x5 hE5=>?_) λ v s5 J5 p σ5 e x5 r5=>?_
   ·exact ⟨k,Nat.lt_succ_self _,ρ5,J5,σ5,i',hE5,e,y4.trans (x5.w (λ Z q=>.inr q) ok4),P.stable i' J4 J5 _ _ _ r4 x5.g.toGrow0.mv hno x5.ok x5.id⟩
   ·exact hT v s5 J5 p σ5 e (x1.absorb (y4.trans (x5.w (λ Z q=>.inr q) ok4)) (Ch.refl own J5 s5.heap).toGrow0 (.refl _) x5.st hown hd hE.ownOk) r5
end
end
section
section
variable {prog:Program} {w:World} {A:Around} {E:Value->Shared->Prop} {s:Shared}
theorem Abp {it t:Addr} {vs:List Value} (hne:t≠it):∀ (us:List Value) (i:Nat) (s:Shared) (Q:List Value->Shared->Prop),vs.drop i=us->s.heap.IsListIter it t i->s.heap.IsList t vs.toArray ->
  (∀ h',h'.IsListIter it t (i+us.length)->Heap.SameBut it s.heap h'->Q us {s with heap:=h'})->wpAny (model prog w) A (draw (.ref it) us.length) Q E s
 | [],i,s,Q,_,hit,_,hQ=>zzb (hQ s.heap hit (Heap.SameBut.refl ..))
 | u::us,i,s,Q,hd,hit,ht,hQ=>by
  have h1:vs[i]?=some u:=(List.getElem?_drop (i:=i) (j:=0) (xs:=vs)).symm.trans (by rw [hd];rfl)
  have h2:vs.drop (i+1)=us:=by rw [<- List.drop_drop,hd];rfl
  show wpAny _ _ (pyNext (.ref it) >>= _) Q E s
  refine wpAny_bind (wpAny_pyNext_list_item hit ht (x:=u) (by rw [List.getElem?_toArray];exact h1) λ h1 hit1 hs1=>?_)
  exact wpAny_bind (wpAny_holding (Abp hne us (i+1) _ _ h2 hit1 (ht.extBut hs1.extBut hne) λ h2 hit2 hs2=>wpAny_pure (hQ h2 (by rw [List.length_cons,Nat.add_comm us.length 1,<-Nat.add_assoc];exact hit2) (hs1.trans hs2))))
theorem Ub {t:Addr} {vs:List Value} {Q:List Value->Shared->Prop} (hh:A.handled=none) (ht:s.heap.IsList t vs.toArray)
  (hQ:∀ h',Heap.ExtBut s.heap.objs.size s.heap h'->Q vs {s with heap:=h'}):wpAny (model prog w) A (unpackItems (.ref t) vs.length none) Q E s:=by
 have hlt:t≠s.heap.objs.size:=ht.elim λ o e=>Nat.ne_of_lt (Heap.lt_size e.1)
 have hpush:∀ o,(s.heap.push o).IsList t vs.toArray:=λ o=>ht.elim λ o' e=>⟨o',zzc o e.1,e.2⟩
 unfold unpackItems
 refine zza ?_
 unfold notIterableAtAll
 refine zza (wpAny_specialOf ht.typeIs slot_list_iter.lookup ?_)
 refine zzb ?_
 simp only [Bool.false_eq_true,if_false]
 refine zza (zzg (wpAny_pyIter_list ht ?_))
 refine zza (zzg (Abp (vs:=vs) hlt vs 0 _ _ rfl ⟨_,zzd _ rfl,rfl,rfl⟩ (hpush _) λ h1 hit1 hs1=>?_))
 rw [if_neg (by simp)]
 rw [Nat.zero_add] at hit1
 have ht1:h1.IsList t vs.toArray:=(hpush _).extBut hs1.extBut hlt
 refine wpAny_bind (wpAny_holding (wpAny_pyNext_list_end hh hit1 ht1 (by simp) λ h2 he2=>?_))
 simp only [Option.isSome_none,Bool.false_eq_true,if_false]
 exact zzb (hQ h2 λ b o hb e=>he2 b o hb (hs1.extBut b o hb (zzc _ e)))
end
section
variable {B:Aq} {A:Around} {J:Aj} {σ:PS} {s:Shared}
def Ht (p:PV) (σ:PS) (k:List PV->Bool):Bool:=@PV.rec (λ Z=>PS->(List PV->Bool)->Bool) (λ Z=>Unit) (λ Z Z=>false) (λ Z Z Z=>false) (λ Z Z Z=>false) (λ Z Z Z=>false) (λ l Z Z k=>k l) (λ l Z Z k=>k l) (λ Z Z Z Z=>false) (λ i σ k=>Qm i σ k) (λ Z Z Z=>false) (λ Z Z Z=>false) () (λ Z Z Z Z=>()) p σ k
@[elab_as_elim] theorem A6a {p:PV} {v:Value} {k:List PV->Bool} {P:Value->Prop} (e:Ht p σ k=true) (st:St B J σ s.heap) (r:Ae J s.heap p v) (H:∀ l a vs,k l=true->(IsTup s.heap a vs.toArray\/s.heap.IsList a vs.toArray)->RepL J s.heap l vs->P (.ref a)):P v:=by
 cases p with
 | tup l=>exact Cw r λ a vs Z Z t q=>H l a vs e (.inl t) q
 | lst l=>exact Mu r λ a vs Z t q=>H l a vs e (.inr t) q
 | obj i=>exact F7 r λ a ha=>Cp e st ha λ l o vs n e Z ho hc Z Z hd q=>H l a vs e (.inr ⟨o,ho,hc,n,hd⟩) q
 | _=>exact ff e
theorem Uc {v:Value} {p:PV} {n:Nat} {k:List PV->Bool} {Q:List Value->Shared->Prop} {E:Value->Shared->Prop} (hh:A.handled=none) (e:Ht p σ (λ l=>bC false (k l) (Nat.beq (len l) n))=true) (st:St B J σ s.heap) (r:Ae J s.heap p v)
  (h:∀ l vs s',k l=true->Nx B Ao J s J σ s'->RepL J s'.heap l vs->l.length=n->Q vs s'):wpAny (model B.prog B.w) A (unpackItems v n none) Q E s:=
 A6a (k:=λ l=>bC false (k l) (Nat.beq (len l) n)) e st r λ l a vs e t rl=>Bs e λ hn e=>by
  have hn:=(By l).symm.trans (zzh hn)
  have hv:vs.length=n:=rl.length.trans hn
  have key:∀ h',Heap.ExtBut s.heap.objs.size s.heap h'->Q vs {s with heap:=h'}:=λ h' he=>by
   have y:=Nx.keep st (Ab _ _) s.toks λ b o e=>he b o (Nat.ne_of_lt (Heap.lt_size e)) e
   exact h l vs _ e y (y.upL rl) hn
  rcases t with t|t
  ·have q:=unpackItems_tuple (prog:=B.prog) (w:=B.w) (E:=E) (Q:=Q) hh t λ h' he=>key h' he
   rw [List.size_toArray,hv] at q
   exact q
  ·exact hv▸Ub hh t key
end
section
variable {B:Aq} {d:Nat} {ks:List (Str×NameKind)} {xs:List Str}
structure Fi (O:Env->Addr->Prop):Prop where
 lo:∀ env b,Mr env b->O env b
 hi:∀ env b,O env b->Ck env b
theorem olL:Fi Mr:=⟨λ Z Z q=>q,λ env b q=>Ik env b q⟩
theorem olE:Fi Ck:=⟨λ env b q=>Ik env b q,λ Z Z q=>q⟩
variable {O:Env->Addr->Prop}
theorem As.okO {env:Env} {ρ:Ax} {J:Aj} {h:Heap} (x:As ks xs env ρ J h) (ol:Fi O):A0 (O env) J h:=x.ownOk.mono (ol.hi env)
def tN (i:Nat):TF:=λ p ρ σ k=>Ge ρ i p λ ρ=>k ρ σ
theorem Aqj {x:Str} {pos:Pos} {i:Nat} (ol:Fi O) (hx:xs[i]?=some x) (hk:ks.lookup x=some .local):SA O B d ks xs (.Name x pos) (tN i):=λ A s env ρ J σ p v hR hE st hO r k Q E e hQ=>
 wpAny_assign_Name (N0 hE st (hO _ (ol.lo env _ rfl)) hx hk r λ s' x hE'=>hQ s' J _ σ ((Pl ρ i _).symm.trans e) (x.w (ol.lo env) (hE.okO ol)) hE')
theorem Ats {x:Str} {pos:Pos} {i:Nat} (hx:xs[i]?=some x) (hk:ks.lookup x=some .cell):SA Ck B d ks xs (.Name x pos) (tN i):=λ A s env ρ J σ p v hR hE st hO r k Q E e hQ=>
 wpAny_assign_Name (Acd hE st hO hx hk r λ s' x hE'=>hQ s' J _ σ ((Pl ρ i _).symm.trans e) x hE')
abbrev TL:=List PV->Ax->PS->(Ax->PS->Bool)->Bool
def A3e:TL:=λ l ρ σ k=>lC (k ρ σ) F2 l
def Awz (t:TF) (u:TL):TL:=λ l ρ σ k=>lC false (λ p r=>t p ρ σ λ ρ σ=>u r ρ σ k) l
def SAL (O:Env->Addr->Prop) (B:Aq) (d:Nat) (ks:List (Str×NameKind)) (xs:List Str) (tgs:List Expr) (u:TL):Prop:=
 ∀ (A:Around) (env:Env),Cc A d->(assignEach tgs env).findIdx? (·.1)=none/\(assignEach tgs env).length=tgs.length /\
  ∀ (s:Shared) (ρ:Ax) (J:Aj) (σ:PS) (ps:List PV) (vs:List Value),As ks xs env ρ J s.heap->St B J σ s.heap->(∀ b,O env b->B.h₀.get? b=none)->RepL J s.heap ps vs ->
   ∀ (k:Ax->PS->Bool) (Q:Unit->Shared->Prop) (E:Value->Shared->Prop),u ps ρ σ k=true->(∀ s' J' ρ' σ',k ρ' σ'=true->Nx B (O env) J s J' σ' s'->As ks xs env ρ' J' s'.heap->Q () s') ->
    wpAny (model B.prog B.w) A (assignInOrder ((assignEach tgs env).map (·.2)) vs) Q E s
theorem Att (ol:Fi O):SAL O B d ks xs [] A3e:=λ A env hR=>⟨rfl,rfl,λ s ρ J σ ps vs hE st hO r k Q E e hQ=>by
 cases ps with
 | nil=>exact C8 r (zzb (hQ s J ρ σ e (.refl st (hE.okO ol)) hE))
 | cons p ps=>exact ff e⟩
theorem Aqk {tg:Expr} {tgs:List Expr} {t:TF} {u:TL} (ol:Fi O) (h:SA O B d ks xs tg t) (hs:SAL O B d ks xs tgs u) (he:∀ env,assignEach (tg::tgs) env=(false,assign tg env)::assignEach tgs env):SAL O B d ks xs (tg::tgs) (Awz t u):=λ A env hR=>by
 obtain ⟨a1,a2,a3⟩:=hs A env hR
 rw [he]
 refine ⟨by rw [List.findIdx?_cons,a1];rfl,congrArg Nat.succ a2,λ s ρ J σ ps vs hE st hO r k Q E e hQ=>?_⟩
 cases ps with
 | nil=>exact ff e
 | cons p ps=>
  refine A8 r λ v vs' r1 r2=>?_
  show wpAny _ _ (do holding vs' (assign tg env v);assignInOrder ((assignEach tgs env).map (·.2)) vs') _ _ _
  exact zza (zzg (h A s env ρ J σ p v hR hE st hO r1 _ _ E e λ s1 J1 ρ1 σ1 e x1 hE1=>
   a3 s1 ρ1 J1 σ1 ps vs' hE1 x1.st hO (x1.upL r2) _ Q E e λ s2 J2 ρ2 σ2 e x2 hE2=>hQ s2 J2 ρ2 σ2 e (x1.trans x2) hE2))
def tT (n:Nat) (u:TL):TF:=λ p ρ σ k=>Ht p σ λ l=>bC false (u l ρ σ k) (Nat.beq (len l) n)
theorem Azf {tgs:List Expr} {k:Nat} {pos:Pos} {u:TL} (ol:Fi O) (hs:SAL O B d ks xs tgs u):SA O B d ks xs (.Tuple tgs k pos) (tT tgs.length u):=λ A s env ρ J σ p v hR hE st hO r k Q E e hQ=>by
 obtain ⟨a1,a2,a3⟩:=hs A env hR
 show wpAny _ _ (do standAt pos;unpack v (assignEach tgs env)) _ _ _
 refine zza (wpAny_standAt ?_)
 unfold unpack
 rw [a1,a2]
 exact zza (zzg (Uc (k:=λ l=>u l ρ σ k) hR.2.2 e st r λ l vs s1 e x1 rl Z=>
  a3 s1 ρ J σ l vs (hE.up x1) x1.st hO rl _ Q E e λ s2 J2 ρ2 σ2 e x2 hE2=>hQ s2 J2 ρ2 σ2 e ((x1.e (hE.okO ol)).trans x2) hE2))
def tS (f g:EF):TF:=λ v ρ σ k=>f ρ σ λ p σ=>g ρ σ λ q σ=>Od p q v σ λ σ=>k ρ σ
theorem Aze {o i:Expr} {pos:Pos} {f g:EF} (ol:Fi O) (hf:SE B d ks xs o f) (hg:SE B d ks xs i g) (hs:∀ env v,assign (.Subscript o i pos) env v=(do
  let ov<-holding [v] (eval o env)
  let iv<-holding [v,ov] (eval i env)
  standAt pos
  holding [v,ov,iv] (setItem ov iv v)
  release [v,ov,iv] [])):SA O B d ks xs (.Subscript o i pos) (tS f g):=λ A s env ρ J σ p v hR hE st hO r k Q E e hQ=>by
 rw [hs]
 exact zza (zzg (hf A s env ρ J σ hR hE st _ _ E e λ u s1 J1 q σ1 e x1 r1=>zza (zzg (hg A s1 env ρ J1 σ1 hR (hE.up x1) x1.st _ _ E e λ kv s2 J2 z σ2 e x2 r2=>
  zza (wpAny_standAt (zza (zzg (Alt (hR.mono (Nat.zero_le _)) e x2.st (x2.up r1) r2 ((x1.trans x2).up r) λ s3 σ3 e x3=>
   wpAny_release (hQ s3 J2 ρ σ3 e ((x1.trans (x2.trans x3)).e (hE.okO ol)) (hE.up (x1.trans (x2.trans x3))))))))))))
def Ang (t:TF) (f:EF):C0:=λ ρ σ kn Z=>f ρ σ λ p σ=>t p ρ σ kn
theorem Az4 {elts:List Expr} {k:Nat} {tpos pos:Pos} {value:Expr} {t:TF} {f:EF} (hv:SE B d ks xs value f) (ht:SA Ck B d ks xs (.Tuple elts k tpos) t) (hs:∀ env,swapsWithSole [.Tuple elts k tpos] value pos.line env=pure false)
  (hw:∀ env:Env,env.scope.kind=.function->env.scope.names=ks->swappedStores [.Tuple elts k tpos] value env=pure none):SS B d ks xs (.Assign [.Tuple elts k tpos] value pos) (Ang t f):=λ A s env ρ J σ hR hE st hO kn kr Q E e hN hT=>
 Assign_Tuple (hv A s env ρ J σ hR hE st _ _ E e λ v s1 J1 q σ1 e x1 r1=>ht A s1 env ρ J1 σ1 q v hR (hE.up x1) x1.st hO r1 _ _ E e λ s2 J2 ρ2 σ2 e x2 hE2=>hN s2 J2 ρ2 σ2 e ((x1.e hE.ownOk).trans x2) hE2) (hs env) (hw env hE.kind hE.names)
theorem Rw {A:Around} {s:Shared} {env:Env} {ρ:Ax} {J:Aj} {σ:PS} {x:Str} {i:Nat} {p:PV} {v:Value} {k:Ax->Bool} {Q:Unit->Shared->Prop} {E:Value->Shared->Prop} {us:List Value} (hE:As ks xs env ρ J s.heap) (st:St B J σ s.heap) (hO:∀ b,Ck env b->B.h₀.get? b=none)
  (hx:xs[i]?=some x) (hk:ks.lookup x=some .local) (r:Ae J s.heap p v) (e:Ge ρ i p k=true) (h:∀ s' ρ',k ρ'=true->Nx B (Ck env) J s J σ s'->As ks xs env ρ' J s'.heap->Q () s'):wpAny (model B.prog B.w) A (holding us (bindName env x v)) Q E s:=
 zzg (bindName_ (N0 hE st (hO _ (.inl rfl)) hx hk r λ s' x hE'=>h s' _ ((Pl ρ i k).symm.trans e) (x.w (Ik env) hE.ownOk) hE'))
def A3g (i j:Nat):TF:=λ v ρ σ k=>Ht v σ λ l=>bC false (on2 l λ p q=>Ge ρ j q λ ρ=>Ge ρ i p λ ρ=>k ρ σ) (Nat.beq (len l) 2)
theorem Aq2 {x y:Str} {p1 p2:Pos} {k:Nat} {tpos pos:Pos} {value:Expr} {f:EF} {i j:Nat} (hv:SE B d ks xs value f) (hx:xs[i]?=some x) (hkx:ks.lookup x=some .local) (hy:xs[j]?=some y) (hky:ks.lookup y=some .local)
  (hs:∀ env,swapsWithSole [.Tuple [.Name x p1,.Name y p2] k tpos] value pos.line env=pure false)
  (hw:∀ env:Env,env.scope.kind=.function->env.scope.names=ks->swappedStores [.Tuple [.Name x p1,.Name y p2] k tpos] value env=pure (some [x,y])):
  SS B d ks xs (.Assign [.Tuple [.Name x p1,.Name y p2] k tpos] value pos) (Ang (A3g i j) f):=λ A s env ρ J σ hR hE st hO kn kr Q E e hN hT=>by
 refine Assign_Tuple_swapped (hv A s env ρ J σ hR hE st _ _ E e λ v s1 J1 q σ1 e x1 r1=>?_) (hs env) (hw env hE.kind hE.names)
 refine Uc (k:=λ l=>on2 l λ p q=>Ge ρ j q λ ρ=>Ge ρ i p λ ρ=>kn ρ σ1) hR.2.2 e x1.st r1 λ l vs s2 e x2 rl Z=>Yr e λ p q hp e=>?_
 subst hp
 refine rl.two λ u w hv ru rw'=>?_
 subst hv
 have y:=(x1.trans x2).e hE.ownOk
 exact wpAny_bind (Rw (hE.up (x1.trans x2)) x2.st hO hy hky rw' e λ s3 ρ3 e x3 hE3=>wpAny_bind (Rw hE3 x3.st hO hx hkx (x3.up ru) e λ s4 ρ4 e x4 hE4=>wpAny_pure (hN s4 J1 ρ4 σ1 e (y.trans (x3.trans x4)) hE4)))
def A3h (i j n:Nat):TF:=λ v ρ σ k=>Ht v σ λ l=>bC false (on3 l λ p q r=>Ge ρ n r λ ρ=>Ge ρ j q λ ρ=>Ge ρ i p λ ρ=>k ρ σ) (Nat.beq (len l) 3)
theorem Aq3 {x y z:Str} {p1 p2 p3:Pos} {k:Nat} {tpos pos:Pos} {value:Expr} {f:EF} {i j n:Nat} (hv:SE B d ks xs value f) (hx:xs[i]?=some x) (hkx:ks.lookup x=some .local) (hy:xs[j]?=some y) (hky:ks.lookup y=some .local)
  (hz:xs[n]?=some z) (hkz:ks.lookup z=some .local)
  (hs:∀ env,swapsWithSole [.Tuple [.Name x p1,.Name y p2,.Name z p3] k tpos] value pos.line env=pure false)
  (hw:∀ env:Env,env.scope.kind=.function->env.scope.names=ks->swappedStores [.Tuple [.Name x p1,.Name y p2,.Name z p3] k tpos] value env=pure (some [x,y,z])):
  SS B d ks xs (.Assign [.Tuple [.Name x p1,.Name y p2,.Name z p3] k tpos] value pos) (Ang (A3h i j n) f):=λ A s env ρ J σ hR hE st hO kn kr Q E e hN hT=>by
 refine Assign_Tuple_swapped (hv A s env ρ J σ hR hE st _ _ E e λ v s1 J1 q σ1 e x1 r1=>?_) (hs env) (hw env hE.kind hE.names)
 refine Uc (k:=λ l=>on3 l λ p q r=>Ge ρ n r λ ρ=>Ge ρ j q λ ρ=>Ge ρ i p λ ρ=>kn ρ σ1) hR.2.2 e x1.st r1 λ l vs s2 e x2 rl Z=>Ayo e λ p q r hp e=>?_
 subst hp
 refine rl.three λ u w o hv ru rw' ro=>?_
 subst hv
 have y:=(x1.trans x2).e hE.ownOk
 exact wpAny_bind (Rw (hE.up (x1.trans x2)) x2.st hO hz hkz ro e λ s3 ρ3 e x3 hE3=>wpAny_bind (Rw hE3 x3.st hO hy hky (x3.up rw') e λ s4 ρ4 e x4 hE4=>wpAny_bind (Rw hE4 x4.st hO hx hkx ((x3.trans x4).up ru) e λ s5 ρ5 e x5 hE5=>
  zzb (hN s5 J1 ρ5 σ1 e (y.trans (x3.trans (x4.trans x5))) hE5))))
end
end
section
def is1 (I:Addr):Addr->Prop:=λ b=>b=I
theorem nv (n:String) (h1:n≠"list") (h2:n≠"tuple") (h3:n≠"range"):En (.type n):=⟨λ e=>h1 (by injection (e)),λ e=>h2 (by injection (e)),λ e=>h3 (by injection (e)),λ C e=>by cases e⟩
section
variable {prog:Program} {w:World} {A:Around} {E:Value->Shared->Prop} {s:Shared}
theorem Agb {tg:Expr} {I:Addr} {o:Obj} {n:String} {vs:Array Value} {v:Value} {Q:Unit->Shared->Prop} (ho:s.heap.get? I=some o) (hc:o.cls=.type n) (hd:o.data=.fields vs)
  (hn:(["enumerate","zip","dict_itemiterator","dict_reverseitemiterator","odict_iterator","itertools.zip_longest","itertools.pairwise"].contains n)=false) (h:Q () s):wpAny (model prog w) A (letOwnedTupleGo tg (.ref I) v) Q E s:=by
 have key:∀ v:Value,wpAny (model prog w) A (do
  let (.ref r,.ref a):=(Value.ref I,v)|return
  let o<-load r
  match o.cls,o.data with
  | .type n,.fields vs=>
   if ["enumerate","zip","dict_itemiterator","dict_reverseitemiterator","odict_iterator","itertools.zip_longest","itertools.pairwise"].contains n&&vs[0]?==some (rawInt a) then
    rule "for.unpacks-the-owned-tuple"
    updateField r 0 .none
  | _,_=>pure ()) Q E s:=by
  intro v
  cases v with
  | ref a=>
   refine zza (wpAny_load ho ?_)
   rw [hc,hd]
   dsimp only
   rw [hn,Bool.false_and,if_neg (by decide)]
   exact zzb h
  | _=>exact zzb h
 cases tg<;>first|exact key v|exact zzb h
end
structure ItK (B:Aq) (A:Around) (I:Addr) (n:String) (D:Obj->It->Aj->Heap->Prop):Prop where
 mv:∀ o i J J' h h' own,D o i J h->Mv own J J' h h'->A0 own J h->Do J h->D o i J' h'
 cls:∀ o i J h,D o i J h->o.cls=.type n/\∃ vs,o.data=.fields vs
 step:∀ (s:Shared) (J:Aj) (σ:PS) (i:It) (o:Obj) (kd:Bool) (ki:PV->It->Bool) (Q:Option Value->Shared->Prop) (E:Value->Shared->Prop),s.heap.get? I=some o->D o i J s.heap->St B J σ s.heap->G7 i σ kd ki=true ->
  (kd=true->∀ h',Heap.ExtBut I s.heap h'->Q none {s with heap:=h'}) ->
  (∀ v h' tk o' x i',ki x i'=true->Heap.SameBut I s.heap h'->h'.get? I=some o'->D o' i' J s.heap->Ae J s.heap x v->Q (some v) {s with heap:=h',toks:=tk})->wpAny (model B.prog B.w) A (pyNext (.ref I)) Q E s
 self:∀ (s:Shared) (J:Aj) (i:It) (o:Obj) (Q:Value->Shared->Prop) (E:Value->Shared->Prop),s.heap.get? I=some o->D o i J s.heap->Q (.ref I) s->wpAny (model B.prog B.w) A (pyIter (.ref I)) Q E s
def R1 (B:Aq) (I:Addr) (D:Obj->It->Aj->Heap->Prop):It->Aj->Heap->Prop:=λ i J h=>¬ J.has I/\B.h₀.get? I=none/\∃ o,h.get? I=some o/\D o i J h
theorem ok1 {I:Addr} {J:Aj} {h:Heap} {o:Obj} (e:h.get? I=some o) (hc:En o.cls):A0 (is1 I) J h:=λ b q=>q▸⟨o,e,.inr (.inr (.inl hc))⟩
theorem ItK.itp {B:Aq} {A:Around} {I:Addr} {tg:Expr} {n:String} {D:Obj->It->Aj->Heap->Prop} (x:ItK B A I n D) (hv:En (.type n)) (hn:(["enumerate","zip","dict_itemiterator","dict_reverseitemiterator","odict_iterator","itertools.zip_longest","itertools.pairwise"].contains n)=false):ItP B A tg I (is1 I) (R1 B I D) where
 step:=λ s J σ i kd ki Q Q' E r st e hd hq hi=>by
  obtain ⟨hI,hf,o,ho,hD⟩:=r
  have ok:=ok1 (J:=J) ho ((x.cls o i J _ hD).1.symm▸hv)
  refine x.step s J σ i o kd ki Q E ho hD st e (λ e h' he=>?_) λ v h' tk o' y i' e hs ho' hD' rv=>?_
  ·have g:Grow0 (is1 I) J J s.heap h':=⟨List.prefix_refl _,λ b o e Z q=>he b o q e,λ Z q=>.inl q,rfl⟩
   exact hd e {s with heap:=h'} g ⟨rfl,rfl⟩ (st.move0 g ok (λ b q=>q▸hf) λ a q o e=>he a o (λ q'=>hI (q'▸q)) e)
  ·obtain ⟨hc,vs,hdt⟩:=x.cls o' i' J _ hD'
   have y1:=Nx.one (own:=is1 I) st tk hs ⟨o',ho'⟩ rfl ok hI hf
   exact hq v _ (Agb (s:={s with heap:=h',toks:=tk}) ho' hc hdt hn (hi v _ y i' e y1 (y1.up rv) ⟨hI,hf,o',ho',x.mv o' i' J J _ _ _ hD' y1.g.toGrow0.mv ok st.idOk⟩))
 self:=λ s J i Q E r h=>r.2.2.elim λ o q=>x.self s J i o Q E q.1 q.2 h
 stable:=λ i J J' h h' own' r g hno ok hi=>by
  obtain ⟨hI,hf,o,ho,hD⟩:=r
  exact ⟨g.nn _ _ ho hI,hf,o,g.keep I o ho hI λ q=>hno I q rfl,x.mv o i J J' h h' own' hD g ok hi⟩
 ok:=λ i J h r=>r.2.2.elim λ o q=>ok1 q.1 ((x.cls o i J h q.2).1.symm▸hv)
section
variable {B:Aq} {A:Around} {I:Addr}
theorem Bx {α:Type} {l:List α} {j:Nat} {x:α} {r:List α} (h:l.drop j=x::r):l[j]?=some x/\l.drop (j+1)=r:=
 ⟨(List.getElem?_drop (i:=j) (j:=0) (xs:=l)).symm.trans (by rw [h];rfl),by rw [<- List.drop_drop,h];rfl⟩
theorem Hp {α:Type} {l:List α} {j:Nat} (h:l.drop j=[]):l[j]?=none:=List.getElem?_eq_none (List.drop_eq_nil_iff.mp h)
def A4o (o:Obj) (i:It) (J:Aj) (h:Heap):Prop:=∃ (l:List PV) (t:Addr) (vs:List Value) (j:Nat),i=.fix l/\o.cls=.type "tuple_iterator"/\o.data=.fields #[.ref t,.int j 0]/\¬ J.has t/\IsTup h t vs.toArray/\RepL J h l (vs.drop j)
def A4k (o:Obj) (i:It) (J:Aj) (h:Heap):Prop:=∃ (l:List PV) (t:Addr) (vs:List Value) (j:Nat),i=.fix l/\o.cls=.type "list_iterator"/\o.data=.fields #[.ref t,.int j 0]/\¬ J.has t/\h.IsList t vs.toArray/\RepL J h l (vs.drop j)
theorem Aft {C:Prop} {J:Aj} {h:Heap} {σ:PS} {l:List PV} {vs:List Value} {j:Nat} {kd:Bool} {ki:PV->It->Bool} (e:G7 (.fix l) σ kd ki=true) (r:RepL J h l (vs.drop j))
  (H1:kd=true->vs.toArray[j]?=none->C) (H2:∀ x l' v,ki x (.fix l')=true->vs.toArray[j]?=some v->Ae J h x v->RepL J h l' (vs.drop (j+1))->C):C:=by
 rw [List.getElem?_toArray] at H1 H2
 cases l with
 | nil=>exact C8 (P:=λ us=>vs.drop j=us->C) r (λ q=>H1 e (Hp q)) rfl
 | cons x l=>exact A8 (P:=λ us=>vs.drop j=us->C) r (λ v us a b q=>H2 x l v e (Bx q).1 a ((Bx q).2▸b)) rfl
theorem Ass (hh:A.handled=none):ItK B A I "tuple_iterator" A4o where
 mv:=λ o i J J' h h' own q g ok hi=>by
  obtain ⟨l,t,vs,j,a,b,c,d,e,f⟩:=q
  exact ⟨l,t,vs,j,a,b,c,e.elim λ o q=>g.nn _ _ q.1 d,Dh g ok d e,G0 g ok hi l _ f⟩
 cls:=λ o i J h q=>by obtain ⟨l,t,vs,j,a,b,c,_⟩:=q;exact ⟨b,_,c⟩
 step:=λ s J σ i o kd ki Q E ho q st e H1 H2=>by
  obtain ⟨l,t,vs,j,rfl,b,c,d,ta,r⟩:=q
  have hit:s.heap.IsTupleIter I t j:=⟨o,ho,b,c⟩
  exact Aft e r (λ e hx=>wpAny_pyNext_tuple_end hh hit ta hx (H1 e)) λ x l' v e hx rv r'=>wpAny_pyNext_tuple_item hit ta hx λ h' hit' hs=>hit'.elim λ o' q=>H2 v h' s.toks o' x _ e hs q.1 ⟨l',t,vs,j+1,rfl,q.2.1,q.2.2,d,ta,r'⟩ rv
 self:=λ s J i o Q E ho q h=>by
  obtain ⟨l,t,vs,j,rfl,b,c,_⟩:=q
  exact wpAny_pyIter_tupleiter ⟨o,ho,b,c⟩ h
theorem Asp (hh:A.handled=none):ItK B A I "list_iterator" A4k where
 mv:=λ o i J J' h h' own q g ok hi=>by
  obtain ⟨l,t,vs,j,a,b,c,d,e,f⟩:=q
  exact ⟨l,t,vs,j,a,b,c,e.elim λ o q=>g.nn _ _ q.1 d,U4 g ok d e,G0 g ok hi l _ f⟩
 cls:=λ o i J h q=>by obtain ⟨l,t,vs,j,a,b,c,_⟩:=q;exact ⟨b,_,c⟩
 step:=λ s J σ i o kd ki Q E ho q st e H1 H2=>by
  obtain ⟨l,t,vs,j,rfl,b,c,d,ta,r⟩:=q
  have hit:s.heap.IsListIter I t j:=⟨o,ho,b,c⟩
  exact Aft e r (λ e hx=>wpAny_pyNext_list_end hh hit ta hx (H1 e)) λ x l' v e hx rv r'=>wpAny_pyNext_list_item hit ta hx λ h' hit' hs=>hit'.elim λ o' q=>H2 v h' s.toks o' x _ e hs q.1 ⟨l',t,vs,j+1,rfl,q.2.1,q.2.2,d,ta,r'⟩ rv
 self:=λ s J i o Q E ho q h=>by
  obtain ⟨l,t,vs,j,rfl,b,c,_⟩:=q
  exact wpAny_pyIter_listiter ⟨o,ho,b,c⟩ h
def A4l (o:Obj) (i:It) (J:Aj) (h:Heap):Prop:=∃ k t j,i=.ol k j/\J.l[k]?=some t/\o.cls=.type "list_iterator"/\o.data=.fields #[.ref t,.int (j:Nat) 0]
theorem oR {α:Type} {C:Prop} {o:Option α} {n:Bool} {k:α->Bool} (h:@Option.rec α (λ Z=>Bool) n k o=true) (H1:o=none->n=true->C) (H2:∀ a,o=some a->k a=true->C):C:=by
 cases o with
 | none=>exact H1 rfl h
 | some a=>exact H2 a rfl h
theorem oN {α:Type} {C:Prop} {l:List α} {j:Nat} {n:Bool} {k:α->Bool} (h:@Option.rec α (λ Z=>Bool) n k (Aiy l j)=true) (H1:l[j]?=none->n=true->C) (H2:∀ a,l[j]?=some a->k a=true->C):C:=oR h (λ e=>H1 ((Ady l j).symm.trans e)) λ a e=>H2 a ((Ady l j).symm.trans e)
theorem Asq (hh:A.handled=none):ItK B A I "list_iterator" A4l where
 mv:=λ o i J J' h h' own q g ok hi=>by
  obtain ⟨k,t,j,a,b,c⟩:=q
  exact ⟨k,t,j,a,Df g.pre b,c⟩
 cls:=λ o i J h q=>by obtain ⟨k,t,j,a,b,c,d⟩:=q;exact ⟨c,_,d⟩
 step:=λ s J σ i o kd ki Q E ho q st e H1 H2=>by
  obtain ⟨k,t,j,rfl,ea,c,d⟩:=q
  have hit:s.heap.IsListIter I t j:=⟨o,ho,c,d⟩
  refine Cp e st ea λ l ob vs n e Z hob hc Z Z hd r=>oN e (λ hn e=>?_) λ x hx e=>?_
  ·exact wpAny_pyNext_list_end hh hit ⟨ob,hob,hc,n,hd⟩ (by rw [List.getElem?_toArray];exact List.getElem?_eq_none (r.length.symm▸List.getElem?_eq_none_iff.mp hn)) (H1 e)
  ·obtain ⟨v,hv,rv⟩:=r.get hx
   exact wpAny_pyNext_list_item hit ⟨ob,hob,hc,n,hd⟩ (x:=v) (by rw [List.getElem?_toArray];exact hv) λ h' hit' hs=>hit'.elim λ o' q=>H2 v h' s.toks o' x _ ((nF_ (λ n=>ki x (.ol k n)) (j+1)).symm.trans e) hs q.1 ⟨k,t,j+1,rfl,ea,q.2.1,q.2.2⟩ rv
 self:=λ s J i o Q E ho q h=>by
  obtain ⟨k,t,j,rfl,ea,c,d⟩:=q
  exact wpAny_pyIter_listiter ⟨o,ho,c,d⟩ h
def Aoe (l:List Nat):List PV:=@List.rec _ (λ Z=>List PV) [] (λ c Z ih=>.str (Nat.succ c)::ih) l
def A4n (ty:String) (o:Obj) (i:It) (J:Aj) (h:Heap):Prop:=∃ (l xs:List Nat) (t:Tok) (j:Nat),i=.fix (Aoe l)/\o.cls=.type ty/\o.data=.fields #[.str ⟨xs.toArray⟩ t,.int (j:Nat) 0]/\xs.drop j=l/\∀ c∈l,c<kB
theorem Ak1 {ty:String} (hty:ty="str_ascii_iterator"\/ty="str_iterator") (hh:A.handled=none):ItK B A I ty (A4n ty) where
 mv:=λ o i J J' h h' own q g ok hi=>q
 cls:=λ o i J h q=>by obtain ⟨l,t,vs,j,a,b,c,_⟩:=q;exact ⟨b,_,c⟩
 step:=λ s J σ i o kd ki Q E ho q st e H1 H2=>by
  obtain ⟨l,xs,t,j,rfl,b,c,hl,hb⟩:=q
  have hit:s.heap.IsStrIter I ty ⟨xs.toArray⟩ t j:=⟨o,ho,b,c⟩
  cases l with
  | nil=>
   have hx:xs.toArray[j]?=none:=by rw [List.getElem?_toArray];exact Hp hl
   rcases hty with rfl|rfl
   ·exact wpAny_pyNext_ascii_end hh hit hx (H1 e)
   ·exact wpAny_pyNext_wide_end hh hit hx (H1 e)
  | cons z l=>
   have hx:(Str.mk xs.toArray).cps[j]?=some z:=by show xs.toArray[j]?=_;rw [List.getElem?_toArray];exact (Bx hl).1
   have key:∀ h',h'.IsStrIter I ty ⟨xs.toArray⟩ t (j+1)->Heap.SameBut I s.heap h'->Q (some (.str ⟨#[z]⟩ s.toks)) {s with heap:=h',toks:=s.toks+1}:=λ h' hit' hs=>hit'.elim λ o' q=>
    H2 _ h' _ o' _ (.fix (Aoe l)) e hs q.1 ⟨l,xs,t,j+1,rfl,q.2.1,q.2.2,(Bx hl).2,λ y hy=>hb y (List.mem_cons_of_mem _ hy)⟩ (Ep _ (by rw [Wr (hb z List.mem_cons_self)]))
   rcases hty with rfl|rfl
   ·exact wpAny_pyNext_ascii_item hit hx key
   ·exact wpAny_pyNext_wide_item hit hx key
 self:=λ s J i o Q E ho q h=>by
  obtain ⟨l,xs,t,j,rfl,b,c,_⟩:=q
  rcases hty with rfl|rfl
  ·exact wpAny_pyIter_striter_ascii ⟨o,ho,b,c⟩ h
  ·exact wpAny_pyIter_striter_wide ⟨o,ho,b,c⟩ h
def Akx (n:Nat) (i:Nat):List PV:=@Nat.rec (λ Z=>Nat->List PV) (λ Z=>[]) (λ Z ih i=>.int (Int.ofNat i)::ih (Nat.succ i)) n i
def A4m (o:Obj) (i:It) (J:Aj) (h:Heap):Prop:=∃ n k:Nat,i=.fix (Akx n k)/\o={cls:=.type "range_iterator",data:=.fields #[rawInt (k:Int),rawInt (n:Int),rawInt 1]}
theorem Asr (hh:A.handled=none):ItK B A I "range_iterator" A4m where
 mv:=λ o i J J' h h' own q g ok hi=>q
 cls:=λ o i J h q=>by obtain ⟨n,k,a,rfl⟩:=q;exact ⟨rfl,_,rfl⟩
 step:=λ s J σ i o kd ki Q E ho q st e H1 H2=>by
  obtain ⟨n,k,rfl,rfl⟩:=q
  have hit:IsRangeIter s.heap I (k:Int) (n:Int) 1:=ho
  cases n with
  | zero=>exact wpAny_pyNext_range_end hh hit (Int.le_refl _) (H1 e)
  | succ n=>exact wpAny_pyNext_range_item hit (Int.ofNat_lt.mpr (Nat.zero_lt_succ n)) λ h' hit' hs=>H2 _ h' _ _ (.int (Int.ofNat k)) (.fix (Akx n (k+1))) e hs hit' ⟨n,k+1,rfl,by rw [Int.natCast_succ,Int.add_sub_cancel];rfl⟩ (C2 _ _)
 self:=λ s J i o Q E ho q h=>by
  obtain ⟨n,k,rfl,rfl⟩:=q
  exact wpAny_pyIter_rangeiter ho h
end
end
section
section
variable {prog:Program} {w:World} {A:Around} {E:Value->Shared->Prop} {s:Shared}
theorem Sh {d:Addr} {es:List DictEntry} {ep:Nat} {Q:Value->Shared->Prop} (hd:(d==sysModules)=false) (D:s.heap.get? d=some (W.dictOf es ep))
  (hQ:Q (.ref s.heap.objs.size) {s with heap:=s.heap.push {cls:=.type "dict_keyiterator",data:=.fields #[.ref d,.int 0 0,.int es.length 0,.int ep 0]}}):
  wpAny (model prog w) A (pyIter (.ref d)) Q E s:=by
 have hT:s.TypeIs (.ref d) "dict":=⟨_,D,rfl⟩
 refine wpAny_pyIter_slot hT PySem.F.slot_dict_iter (wpAny_call_entry PySem.F.slot_dict_iter hT PySem.F.entry_dict_iter ?_ (PySem.F.args_dict_iter_1 _))
 unfold Builtin.«dict.__iter__»
 refine zza ?_
 unfold Builtin.Dict.dictSlotNone
 refine zza (wpAny_notOrdered_dict hT ?_)
 show wpAny _ _ (pure (Value.ref d)) _ _ s
 refine zzb ?_
 show wpAny _ _ (Builtin.Dict.showsAll d >>= _) _ _ s
 unfold Builtin.Dict.showsAll
 rw [if_neg (by rw [hd];exact Bool.false_ne_true)]
 refine zza (zzb ?_)
 refine zza (wpAny_dictEntries D rfl ?_)
 refine zza (wpAny_dictEpoch D rfl ?_)
 refine zza (wpAny_newObj_type (zzb ⟨_,rfl,"dict_keyiterator",_,⟨_,zzd _ rfl,rfl⟩,PySem.F.slot_dict_keyiterator_next.lookup,?_⟩))
 simpa [rawInt] using hQ
theorem U9 {it d:Addr} {i ep:Nat} {es:List DictEntry} {e:DictEntry} {Q:Option Value->Shared->Prop} (hit:s.heap.IsKeyIter it d i es.length ep) (D:s.heap.get? d=some (W.dictOf es ep)) (hx:es[i]?=some e)
  (hQ:∀ h',h'.IsKeyIter it d (i+1) es.length ep->Heap.SameBut it s.heap h'->Q (some e.key) {s with heap:=h'}):wpAny (model prog w) A (pyNext (.ref it)) Q E s:=by
 obtain ⟨o,ho,hc,hd⟩:=id hit
 have hlt:i<es.toArray.size:=by rw [List.size_toArray];exact (List.getElem?_eq_some_iff.mp hx).1
 have hkey:es.toArray[i].key=e.key:=by
  have:=(List.getElem?_eq_some_iff.mp hx).2
  simp [this]
 unfold pyNext
 refine zza (wpAny_attempt (wpAny_callSpecial?_slot (name:=Str.ofString "__next__") hit.typeIs PySem.F.slot_dict_keyiterator_next
  (wpAny_call_entry PySem.F.slot_dict_keyiterator_next hit.typeIs PySem.F.entry_dict_keyiterator_next ?_ (PySem.F.args_dict_keyiterator_next_1 _))))
 refine zza (zzb ?_)
 refine zza ?_
 refine zza ?_
 first|refine zza (wpAny_typeNameOfWhole_keyiter hit.typeIs (zzb ?_))|refine zza (wpAny_typeNameOf_keyiter hit.typeIs (zzb ?_))
 refine zza (wpAny_fieldsOf ho hd ?_)
 have hown:Builtin.Dict_items.ownsTuple "dict_keyiterator"=false:=by decide
 simp only [hown,Bool.false_eq_true,if_false]
 show wpAny _ _ (if (Value.ref d==Value.none)=true then _ else _) _ _ s
 rw [if_neg (show ¬ ((Value.ref d==Value.none)=true) from Bool.false_ne_true)]
 refine zza (zzb ?_)
 refine zza (wpAny_dictEntries D rfl ?_)
 rw [if_neg (by simp)]
 refine zza (zzb ?_)
 refine zza (wpAny_dictEpoch D rfl ?_)
 rw [if_neg (by simp)]
 refine zzb ?_
 simp only [show ¬ ((i:Int)<0) from by omega,if_false,Int.toNat_natCast,Array.getElem?_eq_getElem hlt]
 refine zza ?_
 first|refine zza (wpAny_typeNameOfWhole_keyiter hit.typeIs (zzb ?_))|refine zza (wpAny_typeNameOf_keyiter hit.typeIs (zzb ?_))
 refine zza (wpAny_isOneOf_keyiter hit.typeIs ?_)
 show wpAny _ _ (setField (.ref it) 1 (rawInt ((i:Int)+1)) >>= _) _ _ s
 refine wpAny_bind (wpAny_setField ho hd (by simp) ?_)
 have hit':(s.heap.update it (Obj.mapFields (·.setIfInBounds 1 (rawInt ((i:Int)+1))))).IsKeyIter it d (i+1) es.length ep:=
  ⟨_,Heap.get?_update_self _ ho (Obj.isFreed_of_fields (Obj.data_mapFields hd _)),(Obj.cls_mapFields ..).trans hc,by rw [Obj.data_mapFields hd];simp [rawInt]⟩
 refine zza (zzg ?_)
 refine zza (wpAny_isOneOf_keyiter (s:={s with heap:=s.heap.update it (Obj.mapFields (·.setIfInBounds 1 (rawInt ((i:Int)+1))))}) hit'.typeIs ?_)
 show wpAny _ _ (pure es.toArray[i].key) _ _ _
 rw [hkey]
 exact zzb (zzb ⟨_,rfl,zzb (hQ _ hit' (Heap.SameBut.update ..))⟩)
theorem U8 {it d:Addr} {i ep:Nat} {es:List DictEntry} {Q:Option Value->Shared->Prop} (hh:A.handled=none) (hit:s.heap.IsKeyIter it d i es.length ep) (D:s.heap.get? d=some (W.dictOf es ep)) (hx:es[i]?=none)
  (hQ:∀ h',Heap.ExtBut it s.heap h'->Q none {s with heap:=h'}):wpAny (model prog w) A (pyNext (.ref it)) Q E s:=by
 obtain ⟨o,ho,hc,hd⟩:=id hit
 have hge:es.toArray.size≤i:=by rw [List.size_toArray];simpa using hx
 unfold pyNext
 refine zza (wpAny_attempt (wpAny_callSpecial?_slot (name:=Str.ofString "__next__") hit.typeIs PySem.F.slot_dict_keyiterator_next
  (wpAny_call_entry PySem.F.slot_dict_keyiterator_next hit.typeIs PySem.F.entry_dict_keyiterator_next ?_ (PySem.F.args_dict_keyiterator_next_1 _))))
 refine zza (zzb ?_)
 refine zza ?_
 refine zza ?_
 first|refine zza (wpAny_typeNameOfWhole_keyiter hit.typeIs (zzb ?_))|refine zza (wpAny_typeNameOf_keyiter hit.typeIs (zzb ?_))
 refine zza (wpAny_fieldsOf ho hd ?_)
 have hown:Builtin.Dict_items.ownsTuple "dict_keyiterator"=false:=by decide
 simp only [hown,Bool.false_eq_true,if_false]
 show wpAny _ _ (if (Value.ref d==Value.none)=true then _ else _) _ _ s
 rw [if_neg (show ¬ ((Value.ref d==Value.none)=true) from Bool.false_ne_true)]
 refine zza (zzb ?_)
 refine zza (wpAny_dictEntries D rfl ?_)
 rw [if_neg (by simp)]
 refine zza (zzb ?_)
 refine zza (wpAny_dictEpoch D rfl ?_)
 rw [if_neg (by simp)]
 refine zzb ?_
 simp only [show ¬ ((i:Int)<0) from by omega,if_false,Int.toNat_natCast,Array.getElem?_eq_none hge]
 refine zza ?_
 first|refine zza (wpAny_typeNameOfWhole_keyiter hit.typeIs (zzb ?_))|refine zza (wpAny_typeNameOf_keyiter hit.typeIs (zzb ?_))
 show wpAny _ _ (setField (.ref it) 0 .none >>= _) _ _ s
 refine wpAny_bind (wpAny_setField ho hd (by simp) ?_)
 show wpAny _ _ (newExc (.type "StopIteration") [] >>= _) _ _ _
 refine zza ?_
 simp only [newExc,newTuple]
 refine zza (wpAny_newObj_type ?_ (by size_fits))
 refine wpAny_bind (m:=firstArgMember _ _) (wpAny_of_eq (a:=Value.none) (by first|rfl|(simp only [firstArgMember];rfl)) ?_)
 refine wpAny_newObj_type ?_ (by size_fits)
 simp only [raiseNew]
 refine zza (wpAny_handled ?_)
 rw [show A.in1.handled=none from hh]
 refine zza (zzb (wpAny_throw ?_))
 refine zza (wpAny_isInstance (T:="StopIteration") (b:=true) ⟨_,zzd _ rfl,rfl⟩ isSubtype_stop ?_)
 exact zzb (hQ _ (((Heap.SameBut.update ..).extBut.push _).push _))
end
section
variable {B:Aq} {A:Around} {I:Addr}
def A4h (o:Obj) (i:It) (J:Aj) (h:Heap):Prop:=∃ (k:Nat) (t:Addr) (j n:Nat),i=.od k j n/\J.l[k]?=some t/\o.cls=.type "dict_keyiterator"/\o.data=.fields #[.ref t,.int (j:Nat) 0,.int (n:Nat) 0,.int (n:Nat) 0]
theorem Aso (hh:A.handled=none):ItK B A I "dict_keyiterator" A4h where
 mv:=λ o i J J' h h' own q g ok hi=>by
  obtain ⟨k,t,j,n,a,b,c⟩:=q
  exact ⟨k,t,j,n,a,Df g.pre b,c⟩
 cls:=λ o i J h q=>by obtain ⟨k,t,j,n,a,b,c,d⟩:=q;exact ⟨c,_,d⟩
 step:=λ s J σ i o kd ki Q E ho q st e H1 H2=>by
  obtain ⟨k,t,j,n,rfl,ea,c,d⟩:=q
  refine Eo e st ea λ kvs f ob es ep e Z hob hc Z hd hf rd=>Bs e λ ef e=>Bs e λ en e=>?_
  have hn:kvs.length=n:=(By _).symm.trans (zzh en)
  have D:=Bm hc hd▸hob
  cases (hf ef).trans hn
  have hl:es.length=n:=rd.length.trans hn
  have hit:s.heap.IsKeyIter I t j es.length n:=hl.symm▸⟨o,ho,c,d⟩
  refine oN e (λ hx e=>U8 hh hit D ?_ (H1 e)) λ x hx e=>?_
  ·exact List.getElem?_eq_none (rd.length.symm▸List.getElem?_eq_none_iff.mp hx)
  ·obtain ⟨en,he,rp,_⟩:=rd.get hx
   refine U9 hit D he λ h' hit' hs=>?_
   rw [hl] at hit'
   exact hit'.elim λ o' q=>H2 _ h' s.toks o' x.1 _ ((nF_ (λ m=>ki x.1 (.od k m n)) (j+1)).symm.trans e) hs q.1 ⟨k,t,j+1,n,rfl,ea,q.2.1,q.2.2⟩ rp
 self:=λ s J i o Q E ho q h=>by
  obtain ⟨k,t,j,n,rfl,ea,c,d⟩:=q
  exact wpAny_pyIter_keyiter ⟨o,ho,c,d⟩ h
end
section
variable {B:Aq} {A:Around} {J:Aj} {σ:PS} {s:Shared}
theorem Sq (h:Heap):h.get? h.objs.size=none:=Heap.get?_none_of_le (Nat.le_refl _)
theorem Mo {h:Heap} (st:St B J σ h) {a:Addr} (e:h.get? a=none):B.h₀.get? a=none:=by
 cases q:B.h₀.get? a with
 | none=>rfl
 | some o=>exact nomatch e.symm.trans (st.base a o q)
theorem Nw {h:Heap} (st:St B J σ h) {a:Addr} (e:h.get? a=none):¬ J.has a:=λ q=>(st.alive a q).elim λ o e'=>nomatch e.symm.trans e'
def ItQ (B:Aq) (A:Around) (tg:Expr) (J:Aj) (σ:PS) (s:Shared) (k:It->PS->Bool) (Q:Value->Shared->Prop):Prop:=
 ∀ I s' J' own R i σ',k i σ'=true->Nx B Ao J s J' σ' s'->ItP B A tg I own R->R i J' s'.heap->(∀ b,own b->s.heap.get? b=none)->Q (.ref I) s'
theorem it1 {tg:Expr} {n:String} {D:Obj->It->Aj->Heap->Prop} {o:Obj} {i:It} {k:It->PS->Bool} {Q:Value->Shared->Prop} (h:ItQ B A tg J σ s k Q) (st:St B J σ s.heap) (e:k i σ=true) (x:ItK B A s.heap.objs.size n D) (hD:D o i J s.heap) (hv:En (.type n))
  (hn:(["enumerate","zip","dict_itemiterator","dict_reverseitemiterator","odict_iterator","itertools.zip_longest","itertools.pairwise"].contains n)=false) (hf:o.isFreed=false):Q (.ref s.heap.objs.size) {s with heap:=s.heap.push o}:=by
 have y:=Nx.keep st (Ab _ _) s.toks (Aw s.heap o)
 exact h _ _ J _ _ i σ e y (x.itp hv hn) ⟨Nw st (Sq _),Mo st (Sq _),o,zzd _ hf,x.mv o i J J _ _ _ hD y.g.toGrow0.mv y.ok y.id⟩ λ b q=>q▸Sq _
def Bn (p:PV) (σ:PS) (k:It->PS->Bool):Bool:=@PV.rec (λ Z=>PS->(It->PS->Bool)->Bool) (λ Z=>Unit) (λ Z Z=>false) (λ Z Z Z=>false) (λ Z Z Z=>false) (λ x σ k=>k (.fix (Aoe (Ba x))) σ) (λ l Z σ k=>k (.fix l) σ) (λ l Z σ k=>k (.fix l) σ) (λ Z Z Z Z=>false) (λ i σ k=>Ys i σ (λ Z=>k (.ol i 0) σ) (λ kvs f=>bC false (nF (λ n=>k (.od i 0 n) σ) (len kvs)) f)) (λ n σ k=>bC false (k (.fix (Akx n 0)) σ) (Nat.ble n Bv)) (λ Z Z Z=>false) () (λ Z Z Z Z=>()) p σ k
theorem Asn {tg:Expr} {p:PV} {v:Value} {k:It->PS->Bool} {Q:Value->Shared->Prop} {E:Value->Shared->Prop} (hh:A.handled=none) (st:St B J σ s.heap) (r:Ae J s.heap p v) (e:Bn p σ k=true) (h:ItQ B A tg J σ s k Q):wpAny (model B.prog B.w) A (pyIter v) Q E s:=by
 cases p with
 | tup l=>exact Cw r λ a vs na Z ta ra=>wpAny_pyIter_tuple (t:=a) (items:=vs.toArray) ta (it1 h st e (Ass hh) ⟨l,a,vs,0,rfl,rfl,rfl,na,ta,ra⟩ (nv _ (by decide) (by decide) (by decide)) (by decide) rfl)
 | lst l=>exact Mu r λ a vs na ta ra=>wpAny_pyIter_list (l:=a) (items:=vs.toArray) ta (it1 h st e (Asp hh) ⟨l,a,vs,0,rfl,rfl,rfl,na,ta,ra⟩ (nv _ (by decide) (by decide) (by decide)) (by decide) rfl)
 | str x=>
  refine Ei r λ t=>?_
  cases ha:(Str.mk (Ba x).toArray).cps.all (·<128) with
  | true=>exact wpAny_pyIter_ascii ha (it1 h st e (Ak1 (.inl rfl) hh) ⟨Ba x,Ba x,t,0,rfl,rfl,rfl,rfl,Yc x⟩ (nv _ (by decide) (by decide) (by decide)) (by decide) rfl)
  | false=>exact wpAny_pyIter_wide ha (it1 h st e (Ak1 (.inr rfl) hh) ⟨Ba x,Ba x,t,0,rfl,rfl,rfl,rfl,Yc x⟩ (nv _ (by decide) (by decide) (by decide)) (by decide) rfl)
 | rng n=>
  refine Bs (show bC false (k (.fix (Akx n 0)) σ) (Nat.ble n Bv)=true from e) λ hz e=>Atp r λ a t u x hr=>?_
  have hz:=As3 (zzi hz)
  have hsz:Builtin.Range.rangeSize 0 (n:Int) 1=(n:Int):=by
   unfold Builtin.Range.rangeSize
   rw [if_pos (by omega)]
   split
   ·rw [Int.ediv_one];omega
   ·omega
  have hsm:Builtin.Range.small 0 (n:Int) 1=true:=by
   unfold Builtin.Range.small
   rw [hsz]
   unfold Builtin.Range.rangeFitsLong
   simp only [Bool.and_eq_true,Bool.or_eq_true,decide_eq_true_eq,beq_iff_eq]
   refine ⟨⟨⟨⟨by omega,by omega⟩,by omega⟩,by omega⟩,.inr ?_⟩
   rw [if_pos (by omega)]
   simp only [Bool.and_eq_true,decide_eq_true_eq]
   omega
  refine wpAny_pyIter_range hr hsm ?_
  rw [hsz]
  exact it1 h st e (Asr hh) ⟨n,0,rfl,rfl⟩ (nv _ (by decide) (by decide) (by decide)) (by decide) rfl
 | obj i=>
  refine F7 r λ a ea=>Yt e (λ e=>Cp (k:=λ Z=>k (.ol i 0) σ) e st ea λ l o vs n e Z ho hc Z Z hd Z=>?_) λ e=>Eo (k:=λ kvs f=>bC false (nF (λ n=>k (.od i 0 n) σ) (len kvs)) f) e st ea λ kvs f o es n e Z ho hc Z hd hf rd=>Bs e λ ef e=>?_
  ·exact wpAny_pyIter_list (l:=a) (items:=vs.toArray) ⟨o,ho,hc,n,hd⟩ (it1 h st e (Asq hh) ⟨i,a,0,rfl,ea,rfl,rfl⟩ (nv _ (by decide) (by decide) (by decide)) (by decide) rfl)
  ·have e:k (.od i 0 kvs.length) σ=true:=By kvs▸(nF_ _ _).symm.trans e
   refine Sh (st.low a (Aj.at ea)) (Bm hc hd▸ho) ?_
   rw [rd.length,hf ef]
   exact it1 h st e (Aso hh) ⟨i,a,0,kvs.length,rfl,ea,rfl,rfl⟩ (nv _ (by decide) (by decide) (by decide)) (by decide) rfl
 | _=>exact ff e
end
section
variable {B:Aq} {d:Nat} {ks:List (Str×NameKind)} {xs:List Str}
theorem Qk {J J1:Aj} {σ1:PS} {s s1:Shared} (x:Nx B Ao J s J1 σ1 s1) {b:Addr} (hn:s1.heap.get? b=none):s.heap.get? b=none:=by
 cases eb:s.heap.get? b with
 | none=>rfl
 | some o=>exact nomatch hn.symm.trans (x.g.keep b o eb (λ q=>Nw x.st hn (.inl (x.g.pre.subset q))) λ q=>q)
theorem ItQ.after {A:Around} {tg:Expr} {J J1:Aj} {σ σ1:PS} {s s1:Shared} {k:It->PS->Bool} {Q:Value->Shared->Prop} (h:ItQ B A tg J σ s k Q) (x:Nx B Ao J s J1 σ1 s1):ItQ B A tg J1 σ1 s1 k Q:=
 λ I s' J' own R i σ' e y P r hn=>h I s' J' own R i σ' e (x.trans y) P r λ b q=>Qk x (hn b q)
def iE (f:EF):IF:=λ ρ σ k=>f ρ σ λ p σ=>Bn p σ k
theorem A56 {tg e:Expr} {f:EF} (hf:SE B d ks xs e f):SI B d ks xs tg e (iE f):=λ A s env ρ J σ hR hE hS k Q E e h=>
 hf A s env ρ J σ hR hE hS _ _ E e λ v s1 J1 p σ1 e x1 r1=>Asn (tg:=tg) hR.2.2 x1.st r1 e (ItQ.after (σ:=σ) h x1)
end
end
section
set_option tactic.hygienic true
section
variable {prog:Program} {w:World} {A:Around} {E:Value->Shared->Prop} {s:Shared}
theorem Bi {it t:Addr} {i:Nat} {items:Array Value} {x:Value} {Q:Value->Shared->Prop} (hit:s.heap.IsTupleIter it t i) (ht:IsTup s.heap t items) (hx:items[i]?=some x)
  (hQ:∀ h',h'.IsTupleIter it t (i+1)->Heap.SameBut it s.heap h'->Q x {s with heap:=h'}):wpAny (model prog w) A (Builtin.SmallTypes.nextOf (.ref it)) Q E s:=by
 obtain ⟨o,ho,hc,hd⟩:=id hit
 obtain ⟨ol,hol,_,nl,hdl⟩:=ht
 unfold Builtin.SmallTypes.nextOf
 refine zza (wpAny_callSpecial?_slot (name:=Str.ofString "__next__") hit.typeIs PySem.F.slot_tuple_iterator_next
  (wpAny_call_entry PySem.F.slot_tuple_iterator_next hit.typeIs PySem.F.entry_tuple_iterator_next ?_ (PySem.F.args_tuple_iterator_next_1 _)))
 show wpAny _ _ (field (.ref it) 0 >>= _) _ _ s
 refine zza (wpAny_field ho hd (x:=.ref t) rfl ?_)
 show wpAny _ _ (if (Value.ref t==Value.none)=true then _ else _) _ _ s
 rw [if_neg (show ¬ ((Value.ref t==Value.none)=true) from Bool.false_ne_true)]
 show wpAny _ _ (field (.ref it) 1 >>= _) _ _ s
 refine zza (wpAny_field ho hd (x:=.int i 0) rfl ?_)
 show wpAny _ _ (seqItems? (.ref t) >>= _) _ _ s
 refine zza (wpAny_seqItems hol hdl ?_)
 simp only [Int.toNat_natCast,hx]
 refine wpAny_bind (wpAny_setField ho hd (by simp) (wpAny_pure ⟨x,rfl,wpAny_pure (hQ _ ?_ (Heap.SameBut.update ..))⟩))
 exact ⟨_,Heap.get?_update_self _ ho (Obj.isFreed_of_fields (Obj.data_mapFields hd _)),(Obj.cls_mapFields ..).trans hc,by
  rw [Obj.data_mapFields hd];simp [rawInt]⟩
theorem Ca {it t:Addr} {i:Nat} {items:Array Value} {Q:Value->Shared->Prop} (hh:A.handled=none) (hit:s.heap.IsTupleIter it t i) (ht:IsTup s.heap t items) (hx:items[i]?=none)
  (hE:∀ h' e,Heap.ExtBut it s.heap h'->(∃ o,h'.get? e=some o/\o.cls=.type "StopIteration")->E (.ref e) {s with heap:=h'}):wpAny (model prog w) A (Builtin.SmallTypes.nextOf (.ref it)) Q E s:=by
 obtain ⟨o,ho,hc,hd⟩:=id hit
 obtain ⟨ol,hol,_,nl,hdl⟩:=ht
 unfold Builtin.SmallTypes.nextOf
 refine zza (wpAny_callSpecial?_slot (name:=Str.ofString "__next__") hit.typeIs PySem.F.slot_tuple_iterator_next
  (wpAny_call_entry PySem.F.slot_tuple_iterator_next hit.typeIs PySem.F.entry_tuple_iterator_next ?_ (PySem.F.args_tuple_iterator_next_1 _)))
 show wpAny _ _ (field (.ref it) 0 >>= _) _ _ s
 refine zza (wpAny_field ho hd (x:=.ref t) rfl ?_)
 show wpAny _ _ (if (Value.ref t==Value.none)=true then _ else _) _ _ s
 rw [if_neg (show ¬ ((Value.ref t==Value.none)=true) from Bool.false_ne_true)]
 show wpAny _ _ (field (.ref it) 1 >>= _) _ _ s
 refine zza (wpAny_field ho hd (x:=.int i 0) rfl ?_)
 show wpAny _ _ (seqItems? (.ref t) >>= _) _ _ s
 refine zza (wpAny_seqItems hol hdl ?_)
 simp only [Int.toNat_natCast,hx]
 refine wpAny_bind (wpAny_rule (wpAny_bind (wpAny_setField ho hd (by simp) ?_)))
 show wpAny _ _ (newExc (.type "StopIteration") [] >>= _) _ _ _
 refine zza ?_
 simp only [newExc,newTuple]
 refine zza (wpAny_newObj_type ?_ (by size_fits))
 refine wpAny_bind (m:=firstArgMember _ _) (wpAny_of_eq (a:=Value.none) (by first|rfl|(simp only [firstArgMember];rfl)) ?_)
 refine wpAny_newObj_type ?_ (by size_fits)
 simp only [raiseNew]
 refine zza (wpAny_handled ?_)
 first|rw [show A.in1.handled=none from hh]|rw [hh]
 refine zza (zzb (wpAny_throw ?_))
 exact hE _ _ (((Heap.SameBut.update ..).extBut.push _).push _) ⟨_,zzd _ rfl,rfl⟩
end
theorem Afq {prog:Program} {w:World} {A:Around} (hh:A.handled=none) (it t:Addr) (hne:t≠it) (items:Array Value):
  Draws prog w A it [it,t] items.size (λ i v=>items[i]?=some v) (λ i h=>h.IsTupleIter it t i/\IsTup h t items) where
 live:=λ Z Z st=>let ⟨o,ho,_⟩:=st.1;⟨o,ho⟩
 frame:=λ Z Z Z st hk=>⟨st.1.at λ o e=>hk it (by simp) o e,by obtain ⟨o,ho,r⟩:=st.2;exact ⟨o,hk t (by simp) o ho,r⟩⟩
 item:=λ i s Q E hi st hQ=>by
  refine Bi st.1 st.2 (x:=items[i]) (by simp [hi]) λ h' hit' hs'=>?_
  exact hQ _ h' s.toks (by simp [hi]) ⟨hit',st.2.extBut hs'.extBut hne⟩ hs'
 done:=λ s Q E st hE=>Ca hh st.1 st.2 (by simp) hE
theorem Age (t:Addr) (items:Array Value):
  Meets (Builtin.«enumerate.__new__» ⟨[.type "enumerate",.ref t],[]⟩) (λ Z R s=>s.heap.IsTuple t items /\
   R (.ok (.ret (.ref (s.heap.push {cls:=.type "tuple_iterator",data:=.fields #[.ref t,.int 0 0]}).objs.size)))
    {s with heap:=(s.heap.push {cls:=.type "tuple_iterator",data:=.fields #[.ref t,.int 0 0]}).push {cls:=.type "enumerate",data:=.fields #[.none,.bool false,.ref s.heap.objs.size,rawInt 0,.none,.none]}}):=
 .of_wp λ prog w A R s h=>by
  obtain ⟨hp,g,d,tk,os⟩:=s;obtain ⟨hl,h⟩:=h
  have hsub:=sub_enumerate
  have hL:Heap.IsTuple (Shared.heap ⟨hp,g,d,tk,os⟩) t items:=hl
  wp_walk using wpAny_pyIter_tuple hL
  refine wpAny_stack_any λ st=>zzb ?_
  split
  ·rename_i c _ _ _ _ _
   cases (c==Value.type "enumerate")
   ·wp_walk using wpAny_pyIter_tuple hL
    exact ⟨_,rfl,h⟩
   ·wp_walk using wpAny_pyIter_tuple hL
    exact ⟨_,rfl,h⟩
  ·wp_walk using wpAny_pyIter_tuple hL
   exact ⟨_,rfl,h⟩
section
variable {prog:Program} {w:World} {A:Around} {E:Value->Shared->Prop} {s:Shared}
theorem Aib {t:Addr} {items:Array Value} {Q:Value->Shared->Prop} (hL:IsTup s.heap t items)
  (h:∀ h',IsEnum h' (s.heap.objs.size+1) s.heap.objs.size 0 .none->h'.IsTupleIter s.heap.objs.size t 0->h'.objs.size=s.heap.objs.size+2 ->
   (∀ b o,s.heap.get? b=some o->h'.get? b=some o)->Q (.ref (s.heap.objs.size+1)) {s with heap:=h'}):
  wpAny (model prog w) A (call (.type "enumerate") [.ref t]) Q E s:=by
 refine callType_new PySem.F.called_enumerate (by decide) (PySem.F.typeCall_enumerate_1 _) (PySem.F.newCall_enumerate_1 _) (λ obj=>PySem.F.args_object_init_2 obj _) PySem.F.entry_enumerate_new
  (Age t items) ⟨hL,?_⟩
 have hz:(s.heap.push {cls:=.type "tuple_iterator",data:=.fields #[.ref t,.int 0 0]}).objs.size=s.heap.objs.size+1:=Heap.size_push ..
 show _/\_
 rw [hz]
 have he:IsEnum ((s.heap.push {cls:=.type "tuple_iterator",data:=.fields #[.ref t,.int 0 0]}).push
   {cls:=.type "enumerate",data:=.fields #[.none,.bool false,.ref s.heap.objs.size,rawInt 0,.none,.none]}) (s.heap.objs.size+1) s.heap.objs.size 0 .none:=by
  have:=zzd (s.heap.push {cls:=.type "tuple_iterator",data:=.fields #[.ref t,.int 0 0]})
   (o:={cls:=.type "enumerate",data:=.fields #[.none,.bool false,.ref s.heap.objs.size,rawInt 0,.none,.none]}) rfl
  rw [hz] at this;exact this
 exact ⟨⟨_,he,rfl⟩,h _ he ⟨_,Heap.get?_push_of_some _ (Heap.get?_push_size _ rfl),rfl,rfl⟩ (by rw [Heap.size_push,hz]) λ b o x=>Heap.get?_push_of_some _ (Heap.get?_push_of_some _ x)⟩
end
def is2 (a b:Addr):Addr->Prop:=λ x=>x=a\/x=b
def AtI (it:Addr) (ty:String) (t:Addr) (j:Nat) (h:Heap):Prop:=∃ o,h.get? it=some o/\o.cls=.type ty/\o.data=.fields #[.ref t,.int (j:Nat) 0]
structure EnK (B:Aq) (A:Around) (e it:Addr) (ty:String) (D:It->Addr->Nat->Aj->Heap->Prop):Prop where
 mv:∀ i t j J J' h h' own,D i t j J h->Mv own J J' h h'->A0 own J h->Do J h->D i t j J' h'
 step:∀ (s:Shared) (J:Aj) (σ:PS) (i:It) (t:Addr) (j:Nat) (old:Value) (kd:Bool) (ki:PV->It->Bool) (Q:Option Value->Shared->Prop) (E:Value->Shared->Prop),D i t j J s.heap->St B J σ s.heap->G7 i σ kd ki=true->AtI it ty t j s.heap->IsEnum s.heap e it (j:Int) old ->
  (kd=true->∀ h',Heap.ExtBut it s.heap h'->Q none {s with heap:=h'}) ->
  (∀ x y i' h' tk,ki (.tup [.int (Int.ofNat j),y]) i'=true->Ae J s.heap y x->D i' t (j+1) J s.heap->IsEnumOut h' e it ((j:Int)+1) x s.heap.objs.size->AtI it ty t (j+1) h'->h'.get? s.heap.objs.size=some {cls:=.type "tuple",data:=.seq #[.int j tk,x]} ->
   (∀ b o,b≠e->b≠it->s.heap.get? b=some o->h'.get? b=some o)->Q (some (.ref s.heap.objs.size)) {s with heap:=h',toks:=tk+1})->wpAny (model B.prog B.w) A (pyNext (.ref e)) Q E s
theorem Ali:En (.type "enumerate"):=nv _ (by decide) (by decide) (by decide)
section
variable {B:Aq} {A:Around} {J:Aj} {σ:PS} {s:Shared} {e it:Addr} {ty:String} {D:It->Addr->Nat->Aj->Heap->Prop}
theorem ok2 {J:Aj} {h:Heap} {o o':Obj} (e1:h.get? e=some o) (hc:En o.cls) (e2:h.get? it=some o') (hc':En o'.cls):A0 (is2 e it) J h:=λ x q=>q.elim (λ q=>q▸⟨o,e1,.inr (.inr (.inl hc))⟩) λ q=>q▸⟨o',e2,.inr (.inr (.inl hc'))⟩
theorem Ago {h:Heap} {a b:Value} {p q:PV} {T:Addr} (hT:h.get? T=some {cls:=.type "tuple",data:=.seq #[a,b]}) (hn:¬ J.has T) (r1:Ae J h p a) (r2:Ae J h q b):Ae J h (.tup [p,q]) (.ref T):=
 Ek (vs:=[a,b]) hn ⟨_,hT,rfl⟩ ⟨_,hT,rfl,0,rfl⟩ (Bd r1 (Bd r2 Cx))
def REn (B:Aq) (e it:Addr) (ty:String) (D:It->Addr->Nat->Aj->Heap->Prop):It->Aj->Heap->Prop:=λ i J h=>(∀ b,is2 e it b->¬ J.has b/\B.h₀.get? b=none)/\∃ t j old,IsEnum h e it ((j:Nat):Int) old/\AtI it ty t j h/\D i t j J h
theorem EnK.itp {elts:List Expr} {kk:Nat} {tp:Pos} (x:EnK B A e it ty D) (hv:En (.type ty)) (hne:e≠it):ItP B A (.Tuple elts kk tp) e (is2 e it) (REn B e it ty D) where
 step:=λ s J σ i kd ki Q Q' E r st en hd hq hi=>by
  obtain ⟨hI,t,j,old,he,ha,hD⟩:=r
  have he':s.heap.get? e=some _:=he
  obtain ⟨o,ho,hc,_⟩:=id ha
  have ok:=ok2 (J:=J) he' Ali ho (hc.symm▸hv)
  refine x.step s J σ i t j old kd ki Q E hD st en ha he (λ en h' hx=>?_) λ v y i' h1 tk en rv hD' ho1 ha1 hT hk=>?_
  ·have g:Grow0 (is2 e it) J J s.heap h':=⟨List.prefix_refl _,λ b o eb Z q=>hx b o (λ q'=>q (.inr q')) eb,λ Z q=>.inl q,rfl⟩
   exact hd en {s with heap:=h'} g ⟨rfl,rfl⟩ (st.move0 g ok (λ b q=>(hI b q).2) λ a q o eb=>hx a o (λ q'=>(hI a (.inr q')).1 q) eb)
  ·refine hq _ {s with heap:=h1,toks:=tk+1} (wpAny_letOwnedTupleGo_enum (s:={s with heap:=h1,toks:=tk+1}) ho1 λ h2 he2 hs2=>?_)
   obtain ⟨o1,e1,c1⟩:=ha1
   have e2:=hs2.extBut it o1 (Ne.symm hne) e1
   have hk2:∀ b o,¬ is2 e it b->s.heap.get? b=some o->h2.get? b=some o:=λ b o q eb=>hs2.extBut b o (λ q'=>q (.inl q')) (hk b o (λ q'=>q (.inl q')) (λ q'=>q (.inr q')) eb)
   have g:Ch (is2 e it) J J s.heap h2:=⟨⟨List.prefix_refl _,λ b o eb Z q=>hk2 b o q eb,λ Z q=>.inl q,rfl⟩,λ b o q Z=>q.elim (λ q=>q▸⟨_,he2⟩) λ q=>q▸⟨o1,e2⟩⟩
   have y1:Nx B (is2 e it) J s J σ {s with heap:=h2,toks:=tk+1}:=⟨g,⟨rfl,rfl⟩,st.move0 g.toGrow0 ok (λ b q=>(hI b q).2) λ a q o eb=>hk2 a o (λ q'=>(hI a q').1 q) eb,st.idOk,ok⟩
   exact hi _ _ _ i' en y1 (Ago (hs2.extBut _ _ (Nat.ne_of_gt (Heap.lt_size he')) hT) (B5 st.idOk) (C2 _ _) (y1.up rv)) ⟨hI,t,j+1,v,he2,⟨o1,e2,c1⟩,x.mv i' t (j+1) J J _ _ _ hD' g.toGrow0.mv ok st.idOk⟩
 self:=λ s J i Q E r h=>by
  obtain ⟨hI,t,j,old,he,_⟩:=r
  exact wpAny_pyIter_enum he h
 stable:=λ i J J' h h' own' r g hno ok hi=>by
  obtain ⟨hI,t,j,old,he,⟨o,ho,hr⟩,hD⟩:=r
  have he':h.get? e=some _:=he
  exact ⟨λ b q=>⟨q.elim (λ q=>q▸g.nn _ _ he' (hI _ (.inl rfl)).1) λ q=>q▸g.nn _ _ ho (hI _ (.inr rfl)).1,(hI b q).2⟩,t,j,old,g.keep e _ he' (hI e (.inl rfl)).1 (λ q=>hno e q (.inl rfl)),⟨o,g.keep it _ ho (hI it (.inr rfl)).1 (λ q=>hno it q (.inr rfl)),hr⟩,x.mv i t j J J' h h' own' hD g ok hi⟩
 ok:=λ i J h r=>by
  obtain ⟨hI,t,j,old,he,⟨o,ho,hc,_⟩,hD⟩:=r
  have he':h.get? e=some _:=he
  exact ok2 he' Ali ho (hc.symm▸hv)
def A4j (i:It) (t:Addr) (j:Nat) (J:Aj) (h:Heap):Prop:=∃ (l:List PV) (vs:List Value),i=.em l j/\¬ J.has t/\IsTup h t vs.toArray/\RepL J h l (vs.drop j)/\j≤vs.length
theorem Asc (hh:A.handled=none) (hne:e≠it):EnK B A e it "tuple_iterator" A4j where
 mv:=λ i t j J J' h h' own q g ok hi=>by
  obtain ⟨l,vs,a,b,c,d,f⟩:=q
  exact ⟨l,vs,a,c.elim λ o q=>g.nn _ _ q.1 b,Dh g ok b c,G0 g ok hi l _ d,f⟩
 step:=λ s J σ i t j old kd ki Q E q st en ha he H1 H2=>by
  obtain ⟨l,vs,rfl,b,ta,r,hj⟩:=q
  have he':s.heap.get? e=some _:=he
  obtain ⟨o2,ho2,hc2,_⟩:=id ta
  have hti:t≠it:=λ q=>by
   obtain ⟨o,ho,hc,_⟩:=ha
   cases ho.symm.trans (q▸ho2)
   exact absurd (hc.symm.trans hc2) (by decide)
  have hte:t≠e:=λ q=>by
   cases he'.symm.trans (q▸ho2)
   exact absurd (show Value.type "enumerate"=.type "tuple" from hc2) (by decide)
  cases l with
  | nil=>
   refine C8 (P:=λ us=>vs.drop j=us->wpAny (model B.prog B.w) A (pyNext (.ref e)) Q E s) r (λ hd=>?_) rfl
   have hj:j=vs.toArray.size:=Nat.le_antisymm hj (List.drop_eq_nil_iff.mp hd)
   subst hj
   exact wpAny_pyNext_enum_endD (Afq (A:=A.in1) hh it t hti vs.toArray) he ⟨ha,ta⟩ (H1 en)
  | cons y l=>
   refine A8 (P:=λ us=>vs.drop j=us->wpAny (model B.prog B.w) A (pyNext (.ref e)) Q E s) r (λ v us rv r' hd=>?_) rfl
   obtain ⟨e1,e2⟩:=Bx hd
   have hlt:=(List.getElem?_eq_some_iff.mp e1).1
   refine wpAny_pyNext_enum_itemD (Afq (A:=A.in1) hh it t hti vs.toArray) he ⟨ha,ta⟩ hlt hne (λ q=>(List.mem_cons.mp q).elim hne λ q=>hte (List.eq_of_mem_singleton q).symm) λ x h1 tk hP ho1 hs1 hT hsz hk=>?_
   have hP:vs.toArray[j]?=some x:=hP
   rw [List.getElem?_toArray] at hP
   cases e1.symm.trans hP
   exact H2 v y _ h1 tk ((nF_ (λ n=>ki (.tup [.int (Int.ofNat j),y]) (.em l n)) (j+1)).symm.trans en) rv ⟨l,vs,rfl,b,ta,e2▸r',hlt⟩ ho1 hs1.1 hT hk
def A4i (i:It) (t:Addr) (j:Nat) (J:Aj) (h:Heap):Prop:=∃ k,i=.en k j/\J.l[k]?=some t
theorem Asb (hh:A.handled=none) (hne:e≠it):EnK B A e it "list_iterator" A4i where
 mv:=λ i t j J J' h h' own q g ok hi=>q.elim λ k q=>⟨k,q.1,Df g.pre q.2⟩
 step:=λ s J σ i t j old kd ki Q E q st en ha he H1 H2=>by
  obtain ⟨k,rfl,ea⟩:=q
  refine Cp en st ea λ l ob vs n en Z hob hc Z Z hd r=>oN en (λ hn en=>?_) λ y hy en=>?_
  ·exact wpAny_pyNext_enum_end hh he ha ⟨ob,hob,hc,n,hd⟩ (by rw [List.getElem?_toArray];exact List.getElem?_eq_none (r.length.symm▸List.getElem?_eq_none_iff.mp hn)) (H1 en)
  ·obtain ⟨v,hv,rv⟩:=r.get hy
   exact wpAny_pyNext_enum_item he ha ⟨ob,hob,hc,n,hd⟩ (x:=v) (by rw [List.getElem?_toArray];exact hv) hne λ h1 ho1 hs1 hT hsz hk=>H2 v y _ h1 s.toks ((nF_ (λ n=>ki (.tup [.int (Int.ofNat j),y]) (.en k n)) (j+1)).symm.trans en) rv ⟨k,rfl,ea⟩ ho1 hs1 hT hk
end
section
variable {B:Aq} {d:Nat} {ks:List (Str×NameKind)} {xs:List Str}
theorem Wo {x:Str} {np pos:Pos} {args:List Expr} {T:String} {A:Around} {s:Shared} {env:Env} {ρ:Ax} {J:Aj} {σ:PS} {l:LF} {k:List PV->PS->Bool} {Q E:Value->Shared->Prop}
  (hx:nsIn B.K mainGlobals x=some none) (hk:ks.lookup x=some .globalImplicit) (hd:(x==("__debug__":Str))=false) (hb:bootBuiltins x=some (.type T)) (hn:x≠"__name__") (ha:SEL B d ks xs args l)
  (hR:Cc A d) (hE:As ks xs env ρ J s.heap) (hS:St B J σ s.heap) (e:l ρ σ k=true)
  (h:∀ vs s1 J1 ps σ1,k ps σ1=true->Nx B Ao J s J1 σ1 s1->RepL J1 s1.heap ps vs->wpAny (model B.prog B.w) A (call (.type T) vs) Q E s1):wpAny (model B.prog B.w) A (eval (.Call (.Name x np) args [] pos) env) Q E s:=by
 obtain ⟨h1,_,h3⟩:=ha A s env ρ J σ pos hR hE hS
 show wpAny _ _ (do callWith pos (<- eval (.Name x np) env) [] (backTo pos (starEach args env)) []) _ _ _
 exact wpAny_bind (Name_function_global hE.kind (Cq hE hk) (loadGlobal_builtin (by rw [hE.globals];exact hS.T.g) (mg_none_of B.X B.T.g hx) (by rw [hE.builtins];exact hS.T.b) ((B.T.builtins x hn).trans hb)
  (PyProof.Rows.callWith_type ((A9 _ _).trans h1) (Bo ((A9 _ _).trans h1) (h3 _ _ E e λ vs s1 J1 ps σ1 e x1 r1=>h vs s1 J1 ps σ1 e x1 r1.1)))) hd)
def enV (p:PV) (σ:PS) (k:It->PS->Bool):Bool:=vC false F1 F1 F1 (λ l=>k (.em l 0) σ) F1 F2 (λ i=>Qm i σ λ Z=>k (.en i 0) σ) F1 p
def Af2 (l:LF):IF:=λ ρ σ k=>l ρ σ λ ps σ=>on1 ps λ p=>enV p σ k
theorem Aus {elts args:List Expr} {kk:Nat} {tp np pos:Pos} {x:Str} {l:LF} (hl:SEL B d ks xs args l)
  (hx:nsIn B.K mainGlobals x=some none) (hk:ks.lookup x=some .globalImplicit) (hd:(x==("__debug__":Str))=false) (hb:bootBuiltins x=some (.type "enumerate")) (hn:x≠"__name__"):
  SI B d ks xs (.Tuple elts kk tp) (.Call (.Name x np) args [] pos) (Af2 l):=λ A s env ρ J σ hR hE hS k Q E e h=>by
 refine Wo hx hk hd hb hn hl hR hE hS e λ vs s1 J1 ps σ1 e x1 r1=>Oc e λ p hp e=>?_
 subst hp
 refine r1.one λ v hv rv=>?_
 subst hv
 have hne:s1.heap.objs.size+1≠s1.heap.objs.size:=Nat.succ_ne_self _
 have hnew:∀ b,is2 (s1.heap.objs.size+1) s1.heap.objs.size b->s1.heap.get? b=none:=λ b q=>Heap.get?_none_of_le (q.elim (λ q=>q▸Nat.le_succ _) λ q=>q▸Nat.le_refl _)
 have hI:∀ b,is2 (s1.heap.objs.size+1) s1.heap.objs.size b->¬ J1.has b/\B.h₀.get? b=none:=λ b q=>⟨Nw x1.st (hnew b q),Mo x1.st (hnew b q)⟩
 have h:=ItQ.after (σ:=σ) h x1
 cases p with
 | tup l=>exact Cw rv λ a us na Z ta ra=>Aib ta λ h' he hit hsz kk=>wpAny_pyIter_enum (s:={s1 with heap:=h'}) he (by
   have y:=Nx.keep x1.st (Ab _ _) s1.toks kk
   exact h _ _ J1 _ _ _ σ1 e y ((Asc hR.2.2 hne).itp (nv _ (by decide) (by decide) (by decide)) hne) ⟨hI,a,0,.none,he,hit,l,us,rfl,na,ta.keeps kk,y.upL ra,Nat.zero_le _⟩ hnew)
 | obj i=>exact F7 rv λ a ea=>Cp (k:=λ Z=>k (.en i 0) σ1) e x1.st ea λ l o us n e Z ho hc Z Z hd Z=>call_enumerate_list ⟨o,ho,hc,n,hd⟩ λ h' he hit hsz kk=>wpAny_pyIter_enum (s:={s1 with heap:=h'}) he (by
   have y:=Nx.keep x1.st (Ab _ _) s1.toks kk
   exact h _ _ J1 _ _ _ σ1 e y ((Asb hR.2.2 hne).itp (nv _ (by decide) (by decide) (by decide)) hne) ⟨hI,a,0,.none,he,hit,i,rfl,ea⟩ hnew)
 | _=>exact ff e
end
end
section
structure ZA (z TI TO i1 i2 t1 t2:Addr):Prop where
 TIz:TI≠z
 TOz:TO≠z
 i1z:i1≠z
 i2z:i2≠z
 TITO:TI≠TO
 TIi1:TI≠i1
 TIi2:TI≠i2
 TOi1:TO≠i1
 TOi2:TO≠i2
 i12:i1≠i2
 t1z:t1≠z
 t1TO:t1≠TO
 t1i1:t1≠i1
 t1i2:t1≠i2
 t2z:t2≠z
 t2TO:t2≠TO
 t2i1:t2≠i1
 t2i2:t2≠i2
section
variable {prog:Program} {w:World} {A:Around} {E:Value->Shared->Prop} {s:Shared}
theorem Anu {z TI TO i1 i2 t1 t2:Addr} {k1 k2:Nat} {xs ys:Array Value} {x y a b:Value} {Q:Value->Shared->Prop} (D:ZA z TI TO i1 i2 t1 t2)
  (hz:IsZip s.heap z TI TO .none) (hTI:IsPair s.heap TI (.ref i1) (.ref i2)) (hTO:IsPair s.heap TO a b)
  (h1:s.heap.IsTupleIter i1 t1 k1) (h2:s.heap.IsTupleIter i2 t2 k2) (hl1:IsTup s.heap t1 xs) (hl2:IsTup s.heap t2 ys) (hx:xs[k1]?=some x) (hy:ys[k2]?=some y)
  (hQ:∀ h',IsZip h' z TI TO (rawInt s.heap.objs.size)->IsPair h' TO x y->h'.IsTupleIter i1 t1 (k1+1)->h'.IsTupleIter i2 t2 (k2+1)->IsPair h' s.heap.objs.size x y->h'.objs.size=s.heap.objs.size+1 ->
   (∀ c o,c≠z->c≠TO->c≠i1->c≠i2->s.heap.get? c=some o->h'.get? c=some o)->Q (.ref s.heap.objs.size) {s with heap:=h'}):
  wpAny (model prog w) A (Builtin.«zip.__next__» ⟨[.ref z],[]⟩) (λ fin s'=>∃ v,fin=.done (.ret v)/\Q v s') E s:=by
 show wpAny _ _ (field (.ref z) 2 >>= _) _ _ _
 refine zza (wpAny_field hz rfl (x:=.bool false) rfl ?_)
 show wpAny _ _ (field (.ref z) 3 >>= _) _ _ _
 refine zza (wpAny_field hz rfl (x:=.ref TI) rfl ?_)
 refine zza (wpAny_seqItems hTI rfl ?_)
 show wpAny _ _ (Builtin.SmallTypes.ownedTupleIsFree (.ref z) >>= _) _ _ _
 refine zza ?_
 unfold Builtin.SmallTypes.ownedTupleIsFree
 refine zza (wpAny_field hz rfl (x:=.none) rfl (zzb ?_))
 simp only [if_true]
 refine zza (wpAny_rule ?_)
 refine zza (wpAny_field hz rfl (x:=.ref TO) rfl ?_)
 refine wpAny_bind (wpAny_setField_rec hz (by simp) λ u1 hz1 e1=>?_)
 have z1:IsZip u1 z TI TO .ellipsis:=hz1
 refine zza ?_
 simp only [List.zipIdx_cons,List.zipIdx_nil,List.forIn_cons,List.forIn_nil]
 refine zza (zza (wpAny_onRaise ?_))
 show wpAny _ _ (Builtin.SmallTypes.nextOf (.ref i1) >>= _) _ _ _
 refine zza (Bi (h1.extBut e1.extBut D.i1z) (hl1.extBut e1.extBut D.t1z) hx λ u2 a2 e2=>zzb ?_)
 have o2:IsPair u2 TO a b:=e2.extBut _ _ D.TOi1 (e1.extBut _ _ D.TOz hTO)
 refine zza (wpAny_seqItems o2 rfl ?_)
 refine zza (wpAny_updateSeq_pair o2 λ u3 hTO3 e3=>?_)
 have o3:IsPair u3 TO x b:=hTO3
 refine zza (wpAny_letGo (zzb ?_))
 refine zza (zza (wpAny_onRaise ?_))
 show wpAny _ _ (Builtin.SmallTypes.nextOf (.ref i2) >>= _) _ _ _
 refine zza (Bi (((h2.extBut e1.extBut D.i2z).extBut e2.extBut D.i12.symm).extBut e3.extBut D.TOi2.symm)
  (((hl2.extBut e1.extBut D.t2z).extBut e2.extBut D.t2i1).extBut e3.extBut D.t2TO) hy λ u4 b4 e4=>zzb ?_)
 have o4:IsPair u4 TO x b:=e4.extBut _ _ D.TOi2 o3
 refine zza (wpAny_seqItems o4 rfl ?_)
 refine zza (wpAny_updateSeq_pair o4 λ u5 hTO5 e5=>?_)
 have o5:IsPair u5 TO x y:=hTO5
 refine zza (wpAny_letGo (zzb (zzb ?_)))
 refine zza (wpAny_seqItems o5 rfl ?_)
 refine zza (wpAny_newTuple ?_)
 have hsz:u5.objs.size=s.heap.objs.size:=by rw [e5.1,e4.1,e3.1,e2.1,e1.1]
 have z5:IsZip u5 z TI TO .ellipsis:=e5.extBut _ _ D.TOz.symm (e4.extBut _ _ D.i2z.symm (e3.extBut _ _ D.TOz.symm (e2.extBut _ _ D.i1z.symm z1)))
 have k5:∀ c o,c≠z->c≠TO->c≠i1->c≠i2->s.heap.get? c=some o->u5.get? c=some o:=λ c o c1 c2 c3 c4 e=>
  e5.extBut _ _ c2 (e4.extBut _ _ c4 (e3.extBut _ _ c2 (e2.extBut _ _ c3 (e1.extBut _ _ c1 e))))
 have a5:u5.IsTupleIter i1 t1 (k1+1):=((a2.extBut e3.extBut D.TOi1.symm).extBut e4.extBut D.i12).extBut e5.extBut D.TOi1.symm
 have b5:u5.IsTupleIter i2 t2 (k2+1):=b4.extBut e5.extBut D.TOi2.symm
 have hzlt:z<u5.objs.size:=Heap.lt_size z5
 show wpAny _ _ (Builtin.SmallTypes.ownedTupleHandOut (.ref z) (.ref u5.objs.size) >>= _) _ _ _
 refine zza ?_
 unfold Builtin.SmallTypes.ownedTupleHandOut
 have z6:IsZip (u5.push {cls:=.type "tuple",data:=.seq #[x,y]}) z TI TO .ellipsis:=zzc _ z5
 refine wpAny_bind (wpAny_setField_rec z6 (by simp) λ u7 hz7 e7=>?_)
 have z7:IsZip u7 z TI TO (rawInt u5.objs.size):=hz7
 refine wpAny_setField_rec z7 (by simp) λ u8 hz8 e8=>?_
 have z8:IsZip u8 z TI TO (rawInt u5.objs.size):=hz8
 have up:∀ c o,c≠z->u5.get? c=some o->u8.get? c=some o:=λ c o c1 e=>e8.extBut _ _ c1 (e7.extBut _ _ c1 (zzc _ e))
 have p8:IsPair u8 u5.objs.size x y:=e8.extBut _ _ (Nat.ne_of_gt hzlt) (e7.extBut _ _ (Nat.ne_of_gt hzlt) (zzd _ rfl))
 have s8:u8.objs.size=u5.objs.size+1:=by rw [e8.1,e7.1,Heap.size_push]
 rw [hsz] at z8 p8 s8
 refine zzb ⟨_,rfl,?_⟩
 show Q (.ref u5.objs.size) _
 rw [hsz]
 exact hQ u8 z8 (up _ _ D.TOz o5) (a5.at λ o e=>up _ o D.i1z e) (b5.at λ o e=>up _ o D.i2z e) p8 s8 λ c o c1 c2 c3 c4 e=>up c o c1 (k5 c o c1 c2 c3 c4 e)
theorem Ark {z TI TO i1 i2 t1 t2:Addr} {k1 k2:Nat} {xs ys:Array Value} {a b:Value} {Q:Fin->Shared->Prop} (hh:A.handled=none) (D:ZA z TI TO i1 i2 t1 t2)
  (hz:IsZip s.heap z TI TO .none) (hTI:IsPair s.heap TI (.ref i1) (.ref i2)) (hTO:IsPair s.heap TO a b)
  (h1:s.heap.IsTupleIter i1 t1 k1) (h2:s.heap.IsTupleIter i2 t2 k2) (hl1:IsTup s.heap t1 xs) (hl2:IsTup s.heap t2 ys) (hend:xs[k1]?=none\/ys[k2]?=none)
  (hE:∀ h' e,(∀ c o,c≠z->c≠TO->c≠i1->c≠i2->s.heap.get? c=some o->h'.get? c=some o)->(∃ x y,IsPair h' TO x y)->(∃ o,h'.get? e=some o/\o.cls=.type "StopIteration")->E (.ref e) {s with heap:=h'}):
  wpAny (model prog w) A (Builtin.«zip.__next__» ⟨[.ref z],[]⟩) Q E s:=by
 show wpAny _ _ (field (.ref z) 2 >>= _) _ _ _
 refine zza (wpAny_field hz rfl (x:=.bool false) rfl ?_)
 show wpAny _ _ (field (.ref z) 3 >>= _) _ _ _
 refine zza (wpAny_field hz rfl (x:=.ref TI) rfl ?_)
 refine zza (wpAny_seqItems hTI rfl ?_)
 show wpAny _ _ (Builtin.SmallTypes.ownedTupleIsFree (.ref z) >>= _) _ _ _
 refine zza ?_
 unfold Builtin.SmallTypes.ownedTupleIsFree
 refine zza (wpAny_field hz rfl (x:=.none) rfl (zzb ?_))
 simp only [if_true]
 refine zza (wpAny_rule ?_)
 refine zza (wpAny_field hz rfl (x:=.ref TO) rfl ?_)
 refine wpAny_bind (wpAny_setField_rec hz (by simp) λ u1 hz1 e1=>?_)
 have z1:IsZip u1 z TI TO .ellipsis:=hz1
 refine zza ?_
 simp only [List.zipIdx_cons,List.zipIdx_nil,List.forIn_cons,List.forIn_nil]
 refine zza (zza (wpAny_onRaise ?_))
 show wpAny _ _ (Builtin.SmallTypes.nextOf (.ref i1) >>= _) _ _ _
 cases hx:xs[k1]? with
 | none=>
  refine zza (Ca hh (h1.extBut e1.extBut D.i1z) (hl1.extBut e1.extBut D.t1z) hx λ u2 e he2 he=>?_)
  obtain ⟨oe,hoe,hce⟩:=he
  have z2:IsZip u2 z TI TO .ellipsis:=he2 _ _ D.i1z.symm z1
  have hez:e≠z:=λ q=>by subst q;rw [z2] at hoe;cases hoe;simp at hce
  refine wpAny_setField_rec z2 (by simp) λ u3 Z e3=>hE u3 e (λ c o c1 Z c3 Z q=>e3.extBut _ _ c1 (he2 _ _ c3 (e1.extBut _ _ c1 q))) ⟨a,b,e3.extBut _ _ D.TOz (he2 _ _ D.TOi1 (e1.extBut _ _ D.TOz hTO))⟩ ⟨oe,e3.extBut _ _ hez hoe,hce⟩
 | some x=>
  have hy:ys[k2]?=none:=by rcases hend with h|h;rw [hx] at h;cases h;exact h
  refine zza (Bi (h1.extBut e1.extBut D.i1z) (hl1.extBut e1.extBut D.t1z) hx λ u2 a2 e2=>zzb ?_)
  have o2:IsPair u2 TO a b:=e2.extBut _ _ D.TOi1 (e1.extBut _ _ D.TOz hTO)
  refine zza (wpAny_seqItems o2 rfl ?_)
  refine zza (wpAny_updateSeq_pair o2 λ u3 hTO3 e3=>?_)
  have o3:IsPair u3 TO x b:=hTO3
  refine zza (wpAny_letGo (zzb ?_))
  refine zza (zza (wpAny_onRaise ?_))
  show wpAny _ _ (Builtin.SmallTypes.nextOf (.ref i2) >>= _) _ _ _
  refine zza (Ca hh (((h2.extBut e1.extBut D.i2z).extBut e2.extBut D.i12.symm).extBut e3.extBut D.TOi2.symm)
   (((hl2.extBut e1.extBut D.t2z).extBut e2.extBut D.t2i1).extBut e3.extBut D.t2TO) hy λ u4 e he4 he=>?_)
  obtain ⟨oe,hoe,hce⟩:=he
  have z4:IsZip u4 z TI TO .ellipsis:=he4 _ _ D.i2z.symm (e3.extBut _ _ D.TOz.symm (e2.extBut _ _ D.i1z.symm z1))
  have hez:e≠z:=λ q=>by subst q;rw [z4] at hoe;cases hoe;simp at hce
  refine wpAny_setField_rec z4 (by simp) λ u5 Z e5=>hE u5 e (λ c o c1 c2 c3 c4 q=>e5.extBut _ _ c1 (he4 _ _ c4 (e3.extBut _ _ c2 (e2.extBut _ _ c3 (e1.extBut _ _ c1 q))))) ⟨x,b,e5.extBut _ _ D.TOz (he4 _ _ D.TOi2 o3)⟩ ⟨oe,e5.extBut _ _ hez hoe,hce⟩
theorem Vd {z TI TO i1 i2 t1 t2:Addr} {k1 k2:Nat} {xs ys:Array Value} {x y a b:Value} {Q:Option Value->Shared->Prop} (D:ZA z TI TO i1 i2 t1 t2)
  (hz:IsZip s.heap z TI TO .none) (hTI:IsPair s.heap TI (.ref i1) (.ref i2)) (hTO:IsPair s.heap TO a b)
  (h1:s.heap.IsTupleIter i1 t1 k1) (h2:s.heap.IsTupleIter i2 t2 k2) (hl1:IsTup s.heap t1 xs) (hl2:IsTup s.heap t2 ys) (hx:xs[k1]?=some x) (hy:ys[k2]?=some y)
  (hQ:∀ h',IsZip h' z TI TO (rawInt s.heap.objs.size)->IsPair h' TO x y->h'.IsTupleIter i1 t1 (k1+1)->h'.IsTupleIter i2 t2 (k2+1)->IsPair h' s.heap.objs.size x y->h'.objs.size=s.heap.objs.size+1 ->
   (∀ c o,c≠z->c≠TO->c≠i1->c≠i2->s.heap.get? c=some o->h'.get? c=some o)->Q (some (.ref s.heap.objs.size)) {s with heap:=h'}):
  wpAny (model prog w) A (pyNext (.ref z)) Q E s:=by
 have hT:s.TypeIs (.ref z) "zip":=⟨_,hz,rfl⟩
 unfold pyNext
 exact zza (wpAny_attempt (wpAny_callSpecial?_slot (name:=Str.ofString "__next__") hT PySem.F.slot_zip_next
  (wpAny_call_entry PySem.F.slot_zip_next hT PySem.F.entry_zip_next
   (Anu D hz hTI hTO h1 h2 hl1 hl2 hx hy λ h' a1 a2 a3 a4 a5 a6 a7=>zzb (hQ h' a1 a2 a3 a4 a5 a6 a7)) (PySem.F.args_zip_next_1 _))))
theorem Kc {z TI TO i1 i2 t1 t2:Addr} {k1 k2:Nat} {xs ys:Array Value} {a b:Value} {Q:Option Value->Shared->Prop} (hh:A.handled=none) (D:ZA z TI TO i1 i2 t1 t2)
  (hz:IsZip s.heap z TI TO .none) (hTI:IsPair s.heap TI (.ref i1) (.ref i2)) (hTO:IsPair s.heap TO a b)
  (h1:s.heap.IsTupleIter i1 t1 k1) (h2:s.heap.IsTupleIter i2 t2 k2) (hl1:IsTup s.heap t1 xs) (hl2:IsTup s.heap t2 ys) (hend:xs[k1]?=none\/ys[k2]?=none)
  (hQ:∀ h',(∀ c o,c≠z->c≠TO->c≠i1->c≠i2->s.heap.get? c=some o->h'.get? c=some o)->(∃ x y,IsPair h' TO x y)->Q none {s with heap:=h'}):wpAny (model prog w) A (pyNext (.ref z)) Q E s:=by
 have hT:s.TypeIs (.ref z) "zip":=⟨_,hz,rfl⟩
 unfold pyNext
 refine zza (wpAny_attempt (wpAny_callSpecial?_slot (name:=Str.ofString "__next__") hT PySem.F.slot_zip_next
  (wpAny_call_entry PySem.F.slot_zip_next hT PySem.F.entry_zip_next (Ark hh D hz hTI hTO h1 h2 hl1 hl2 hend λ h' e hk hp he=>?_) (PySem.F.args_zip_next_1 _))))
 obtain ⟨o,ho,hc⟩:=he
 refine zza (wpAny_isInstance (T:="StopIteration") (b:=true) ⟨o,ho,hc⟩ isSubtype_stop ?_)
 exact zzb (hQ _ hk hp)
end
section
variable {prog:Program} {w:World} {A:Around} {E:Value->Shared->Prop} {s:Shared}
abbrev zH1 (h:Heap) (l1:Addr):Heap:=h.push {cls:=.type "tuple_iterator",data:=.fields #[.ref l1,.int 0 0]}
abbrev zH2 (h:Heap) (l1 l2:Addr):Heap:=(zH1 h l1).push {cls:=.type "tuple_iterator",data:=.fields #[.ref l2,.int 0 0]}
abbrev zH3 (h:Heap) (l1 l2:Addr):Heap:=(zH2 h l1 l2).push {cls:=.type "tuple",data:=.seq #[.ref h.objs.size,.ref (zH1 h l1).objs.size]}
abbrev zH4 (h:Heap) (l1 l2:Addr):Heap:=(zH3 h l1 l2).push {cls:=.type "tuple",data:=.seq #[.none,.none]}
abbrev zH5 (h:Heap) (l1 l2:Addr):Heap:=(zH4 h l1 l2).push {cls:=.type "zip",data:=.fields #[.none,.bool false,.bool false,.ref (zH2 h l1 l2).objs.size,.ref (zH3 h l1 l2).objs.size]}
theorem Ais (l1 l2:Addr) (xs ys:Array Value):
  Meets (Builtin.«zip.__new__» ⟨[.type "zip",.ref l1,.ref l2],[]⟩) (λ Z R s=>s.heap.IsTuple l1 xs/\s.heap.IsTuple l2 ys /\
   R (.ok (.ret (.ref (zH4 s.heap l1 l2).objs.size))) {s with heap:=zH5 s.heap l1 l2}):=
 .of_wp λ prog w A R s h=>by
  obtain ⟨hp,g,d,tk,os⟩:=s;obtain ⟨hl1,hl2,h⟩:=h
  have hsub:=sub_zip
  have hL1:Heap.IsTuple (Shared.heap ⟨hp,g,d,tk,os⟩) l1 xs:=hl1
  have hL2:Heap.IsTuple (Shared.heap ⟨hp.push {cls:=.type "tuple_iterator",data:=.fields #[.ref l1,.int 0 0]},g,d,tk,os⟩) l2 ys:=Heap.IsTuple.push hl2 _
  wp_walk using wpAny_pyIter_tuple hL1,wpAny_pyIter_tuple hL2
  exact ⟨_,rfl,h⟩
theorem Abk {l1 l2:Addr} {xs ys:Array Value} {Q:Value->Shared->Prop} (hl1:IsTup s.heap l1 xs) (hl2:IsTup s.heap l2 ys)
  (h:Q (.ref (zH4 s.heap l1 l2).objs.size) {s with heap:=zH5 s.heap l1 l2}):wpAny (model prog w) A (call (.type "zip") [.ref l1,.ref l2]) Q E s:=by
 refine callType_new PySem.F.called_zip (by decide) (PySem.F.typeCall_zip_2 _ _) (PySem.F.newCall_zip_2 _ _) (λ obj=>PySem.F.args_object_init_3 obj _ _) PySem.F.entry_zip_new
  (Ais l1 l2 xs ys) ⟨hl1,hl2,?_⟩
 exact ⟨⟨_,zzd _ rfl,rfl⟩,h⟩
end
end
section
def S7 (a:List PV):List PV->List PV:=@List.rec _ (λ Z=>List PV->List PV) (λ Z=>[]) (λ x Z ih b=>@List.rec _ (λ Z=>List PV) [] (λ y r Z=>.tup [x,y]::ih r) b) a
def isZ (z i1 i2:Addr):Addr->Prop:=λ b=>b=z\/b=i1\/b=i2
theorem isZ.el {z i1 i2 b:Addr} {P:Addr->Prop} (q:isZ z i1 i2 b) (h1:P z) (h2:P i1) (h3:P i2):P b:=q.elim (λ q=>q▸h1) λ q=>q.elim (λ q=>q▸h2) λ q=>q▸h3
section
variable {B:Aq} {A:Around} {J:Aj} {σ:PS}
theorem St.hidT {own:Addr->Prop} {h h':Heap} {k:Nat} {TO:Addr} (x:St B J σ h) (g:Grow0 own J J h h') (ho:A0 own J h) (hb:∀ b,own b->B.h₀.get? b=none) (ek:J.l[k]?=some TO) (es:gT σ.t k=.hid)
  (hk:∀ a,J.has a->a≠TO->∀ o,h.get? a=some o->h'.get? a=some o) (hp:∃ a b,IsPair h' TO a b):St B J σ h' where
 base:=λ b o e=>g.keep b o (x.base b o e) (λ q=>nomatch e.symm.trans (x.fresh b (.inl q))) λ q=>nomatch e.symm.trans (hb b q)
 fresh:=x.fresh
 low:=x.low
 nodup:=x.nodup
 len:=x.len
 hid:=λ a q=>⟨(x.hid a q).1,(x.hid a q).2.elim λ o e=>⟨o,hk a (.inr q) (λ q'=>(x.hid a q).1 (q'▸List.mem_iff_getElem?.mpr ⟨k,ek⟩)) o e.1,e.2⟩⟩
 objs:=λ i a e1=>by
  by_cases ha:a=TO
  ·subst ha
   obtain ⟨q1,q2⟩:=List.getElem?_eq_some_iff.mp e1
   obtain ⟨q3,q4⟩:=List.getElem?_eq_some_iff.mp ek
   cases (List.getElem_inj x.nodup).mp (q2.trans q4.symm)
   obtain ⟨a',b',hp⟩:=hp
   exact ⟨_,hp,es▸⟨a',b',rfl⟩⟩
  ·obtain ⟨o,e,r⟩:=x.objs i a e1
   exact ⟨o,hk a (Aj.at e1) ha o e,r.grow0 g ho x.idOk⟩
theorem St.pair {h:Heap} (st:St B J σ h) {k:Nat} {TO:Addr} (ek:J.l[k]?=some TO) (es:gT σ.t k=.hid):∃ a b,IsPair h TO a b:=by
 obtain ⟨o,ho,r⟩:=st.objs k TO ek
 rw [es] at r
 obtain ⟨a,b,rfl⟩:=r
 exact ⟨a,b,ho⟩
theorem zp_ {C:Prop} {l:List PV} {k:Nat} {kd:Bool} {ki:PV->It->Bool} (e:G7 (.zp l k) σ kd ki=true) (H:gT σ.t k=.hid->lC kd (λ x r=>ki x (.zp r k)) l=true->C):C:=by
 have e:@PO.rec (λ Z=>Bool) F1 F2 F1 (lC kd (λ x r=>ki x (.zp r k)) l) F1 (gT σ.t k)=true:=e
 cases h:gT σ.t k with
 | hid=>rw [h] at e;exact H h e
 | _=>rw [h] at e;exact ff e
theorem Awf:En (.type "tuple_iterator"):=nv _ (by decide) (by decide) (by decide)
theorem okZ {z TI TO i1 i2 t1 t2:Addr} {J:Aj} {h:Heap} {f0:Value} {j1 j2:Nat} (hz:IsZip h z TI TO f0) (h1:h.IsTupleIter i1 t1 j1) (h2:h.IsTupleIter i2 t2 j2):A0 (isZ z i1 i2) J h:=λ b q=>
 isZ.el (P:=λ b=>∃ o,h.get? b=some o/\((∃ es n,o.data=.dict es n)\/(∃ v,o.data=.cell v)\/En o.cls\/(o.cls=.type "list"/\b∈J.η))) q ⟨_,hz,.inr (.inr (.inl (nv _ (by decide) (by decide) (by decide))))⟩ (h1.elim λ o e=>⟨o,e.1,.inr (.inr (.inl (e.2.1.symm▸Awf)))⟩) (h2.elim λ o e=>⟨o,e.1,.inr (.inr (.inl (e.2.1.symm▸Awf)))⟩)
def RZp (B:Aq) (z TI TO i1 i2:Addr):It->Aj->Heap->Prop:=λ i J h=>(∀ b,isZ z i1 i2 b->¬ J.has b/\B.h₀.get? b=none)/\¬ J.has TI /\
 ∃ (k:Nat) (la lb:List PV) (t1 t2:Addr) (xs ys:List Value) (j1 j2:Nat),i=.zp (S7 la lb) k/\J.l[k]?=some TO/\ZA z TI TO i1 i2 t1 t2/\IsZip h z TI TO .none/\IsPair h TI (.ref i1) (.ref i2) /\
  h.IsTupleIter i1 t1 j1/\h.IsTupleIter i2 t2 j2/\¬ J.has t1/\¬ J.has t2/\IsTup h t1 xs.toArray/\IsTup h t2 ys.toArray/\RepL J h la (xs.drop j1)/\RepL J h lb (ys.drop j2)
theorem Arl {C:Prop} {h:Heap} {la lb:List PV} {k:Nat} {xs ys:List Value} {j1 j2:Nat} {kd:Bool} {ki:PV->It->Bool} (e:lC kd (λ x r=>ki x (.zp r k)) (S7 la lb)=true) (r1:RepL J h la (xs.drop j1)) (r2:RepL J h lb (ys.drop j2))
  (H1:kd=true->xs.toArray[j1]?=none\/ys.toArray[j2]?=none->C)
  (H2:∀ p q la' lb' v w,ki (.tup [p,q]) (.zp (S7 la' lb') k)=true->xs.toArray[j1]?=some v->ys.toArray[j2]?=some w->Ae J h p v->Ae J h q w->RepL J h la' (xs.drop (j1+1))->RepL J h lb' (ys.drop (j2+1))->C):C:=by
 rw [List.getElem?_toArray,List.getElem?_toArray] at H1 H2
 cases la with
 | nil=>exact C8 (P:=λ us=>xs.drop j1=us->C) r1 (λ q=>H1 e (.inl (Hp q))) rfl
 | cons p la=>
  cases lb with
  | nil=>exact C8 (P:=λ us=>ys.drop j2=us->C) r2 (λ q=>H1 e (.inr (Hp q))) rfl
  | cons q lb=>
   exact A8 (P:=λ us=>xs.drop j1=us->C) r1 (λ v us a b d1=>A8 (P:=λ us=>ys.drop j2=us->C) r2 (λ w us a' b' d2=>H2 p q la lb v w e (Bx d1).1 (Bx d2).1 a a' ((Bx d1).2▸b) ((Bx d2).2▸b')) rfl) rfl
theorem Ast {elts:List Expr} {kk:Nat} {tp:Pos} {z TI TO i1 i2:Addr} (hh:A.handled=none):ItP B A (.Tuple elts kk tp) z (isZ z i1 i2) (RZp B z TI TO i1 i2) where
 step:=λ s J σ i kd ki Q Q' E r st en hd hq hi=>by
  obtain ⟨hI,hTIn,k,la,lb,t1,t2,xs,ys,j1,j2,rfl,ek,D,hz,hTI,h1,h2,n1,n2,ht1,ht2,r1,r2⟩:=r
  refine zp_ en λ es en=>?_
  obtain ⟨a,b,hTO⟩:=st.pair ek es
  have ok:=okZ (J:=J) hz h1 h2
  have hg:∀ {h':Heap},(∀ c o,c≠z->c≠TO->c≠i1->c≠i2->s.heap.get? c=some o->h'.get? c=some o)->Grow0 (isZ z i1 i2) J J s.heap h':=λ hk=>
   ⟨List.prefix_refl _,λ b o e nb q=>hk b o (λ q'=>q (.inl q')) (λ q'=>nb (q'▸List.mem_iff_getElem?.mpr ⟨k,ek⟩)) (λ q'=>q (.inr (.inl q'))) (λ q'=>q (.inr (.inr q'))) e,λ Z q=>.inl q,rfl⟩
  have hs:∀ {h':Heap},(∀ c o,c≠z->c≠TO->c≠i1->c≠i2->s.heap.get? c=some o->h'.get? c=some o)->(∃ x y,IsPair h' TO x y)->St B J σ h':=λ hk hp=>
   st.hidT (hg hk) ok (λ b q=>(hI b q).2) ek es (λ a qa hne o e=>hk a o (λ q=>(hI a (.inl q)).1 qa) hne (λ q=>(hI a (.inr (.inl q))).1 qa) (λ q=>(hI a (.inr (.inr q))).1 qa) e) hp
  refine Arl en r1 r2 (λ e hend=>Kc hh D hz hTI hTO h1 h2 ht1 ht2 hend λ h' hk hp=>hd e {s with heap:=h'} (hg hk) ⟨rfl,rfl⟩ (hs hk hp)) λ p q la' lb' v w e e1 e2 rv1 rv2 f1 f2=>?_
  refine Vd D hz hTI hTO h1 h2 ht1 ht2 e1 e2 λ u a1 a2 a3 a4 a5 a6 hk=>?_
  refine hq _ {s with heap:=u} (wpAny_letOwnedTupleGo_zip (s:={s with heap:=u}) a1 λ u' b1 hsb=>?_)
  have hk2:∀ c o,c≠z->c≠TO->c≠i1->c≠i2->s.heap.get? c=some o->u'.get? c=some o:=λ c o c1 c2 c3 c4 e=>hsb.extBut _ _ c1 (hk c o c1 c2 c3 c4 e)
  have c3:=a3.extBut hsb.extBut D.i1z
  have c4:=a4.extBut hsb.extBut D.i2z
  have g:Ch (isZ z i1 i2) J J s.heap u':=⟨hg hk2,λ b o q Z=>isZ.el (P:=λ b=>∃ o',u'.get? b=some o') q ⟨_,b1⟩ (c3.elim λ o e=>⟨o,e.1⟩) (c4.elim λ o e=>⟨o,e.1⟩)⟩
  have y:Nx B (isZ z i1 i2) J s J σ {s with heap:=u'}:=⟨g,⟨rfl,rfl⟩,hs hk2 ⟨_,_,hsb.extBut _ _ D.TOz a2⟩,st.idOk,ok⟩
  exact hi _ _ _ _ e y (Ago (hsb.extBut _ _ (Nat.ne_of_gt (Heap.lt_size hz)) a5) (B5 st.idOk) (y.up rv1) (y.up rv2))
   ⟨hI,hTIn,k,la',lb',t1,t2,xs,ys,j1+1,j2+1,rfl,ek,D,b1,hk2 _ _ D.TIz D.TITO D.TIi1 D.TIi2 hTI,c3,c4,n1,n2,ht1.elim λ o e=>⟨o,hk2 t1 o D.t1z D.t1TO D.t1i1 D.t1i2 e.1,e.2⟩,ht2.elim λ o e=>⟨o,hk2 t2 o D.t2z D.t2TO D.t2i1 D.t2i2 e.1,e.2⟩,y.upL f1,y.upL f2⟩
 self:=λ s J i Q E r h=>by
  obtain ⟨hI,hTIn,k,la,lb,t1,t2,xs,ys,j1,j2,rfl,ek,D,hz,_⟩:=r
  exact wpAny_pyIter_zip hz h
 stable:=λ i J J' h h' own' r g hno ok hi=>by
  obtain ⟨hI,hTIn,k,la,lb,t1,t2,xs,ys,j1,j2,rfl,ek,D,hz,hTI,⟨o1,h1,h1r⟩,⟨o2,h2,h2r⟩,n1,n2,ht1,ht2,r1,r2⟩:=r
  have hz':h.get? z=some _:=hz
  have hTI':h.get? TI=some _:=hTI
  have hTIo:¬ own' TI:=ok.no hTI' ⟨(λ Z Z q=>nomatch q),(λ Z q=>nomatch q)⟩ (λ c=>c.2.1 rfl) λ (q:Value.type "tuple"=.type "list")=>absurd q (by decide)
  exact ⟨λ b q=>⟨isZ.el (P:=λ b=>¬ J'.has b) q (g.nn _ _ hz' (hI _ (.inl rfl)).1) (g.nn _ _ h1 (hI _ (.inr (.inl rfl))).1) (g.nn _ _ h2 (hI _ (.inr (.inr rfl))).1),(hI b q).2⟩,g.nn _ _ hTI' hTIn,k,la,lb,t1,t2,xs,ys,j1,j2,rfl,Df g.pre ek,D,g.keep z _ hz' (hI z (.inl rfl)).1 (λ q=>hno z q (.inl rfl)),g.keep TI _ hTI' hTIn hTIo,
   ⟨o1,g.keep i1 _ h1 (hI i1 (.inr (.inl rfl))).1 (λ q=>hno i1 q (.inr (.inl rfl))),h1r⟩,⟨o2,g.keep i2 _ h2 (hI i2 (.inr (.inr rfl))).1 (λ q=>hno i2 q (.inr (.inr rfl))),h2r⟩,
   ht1.elim λ o q=>g.nn _ _ q.1 n1,ht2.elim λ o q=>g.nn _ _ q.1 n2,Dh g ok n1 ht1,Dh g ok n2 ht2,G0 g ok hi _ _ r1,G0 g ok hi _ _ r2⟩
 ok:=λ i J h r=>by
  obtain ⟨hI,hTIn,k,la,lb,t1,t2,xs,ys,j1,j2,rfl,ek,D,hz,hTI,h1,h2,_⟩:=r
  exact okZ hz h1 h2
end
end
section
section
variable {B:Aq} {d:Nat} {ks:List (Str×NameKind)} {xs:List Str}
theorem Axa (n t1 t2:Nat) (h1:t1<n) (h2:t2<n):ZA (n+4) (n+2) (n+3) n (n+1) t1 t2:=by
 have a:∀ {t k:Nat},t<n->@Ne Nat t (n+k):=λ h=>Nat.ne_of_lt (Nat.lt_add_right _ h)
 have b:∀ {j k:Nat},j≠k->@Ne Nat (n+j) (n+k):=λ h e=>h (Nat.add_left_cancel e)
 exact ⟨b (by decide),b (by decide),b (j:=0) (by decide),b (by decide),b (by decide),b (k:=0) (by decide),b (by decide),b (k:=0) (by decide),b (by decide),b (j:=0) (by decide),a h1,a h1,a (k:=0) h1,a h1,a h2,a h2,a (k:=0) h2,a h2⟩
def Ams (l:LF):IF:=λ ρ σ k=>l ρ σ λ ps σ=>on2 ps λ p q=>Lo (λ a=>Lo (λ b=>Am .hid σ λ i σ=>k (.zp (S7 a b) i) σ) q) p
theorem Az0 {elts args:List Expr} {kk:Nat} {tp np pos:Pos} {x:Str} {l:LF} (hl:SEL B d ks xs args l)
  (hx:nsIn B.K mainGlobals x=some none) (hk:ks.lookup x=some .globalImplicit) (hd:(x==("__debug__":Str))=false) (hb:bootBuiltins x=some (.type "zip")) (hn:x≠"__name__"):
  SI B d ks xs (.Tuple elts kk tp) (.Call (.Name x np) args [] pos) (Ams l):=λ A s env ρ J σ hR hE hS k Q E e h=>by
 refine Wo hx hk hd hb hn hl hR hE hS e λ vs s1 J1 ps σ1 e x1 r1=>Yr e λ p q hp e=>?_
 subst hp
 refine r1.two λ u v hv ru rv=>?_
 subst hv
 have h:=ItQ.after (σ:=σ) h x1
 refine Aj0 (k:=λ a=>Lo (λ b=>Am .hid σ1 λ i σ=>k (.zp (S7 a b) i) σ) q) e ru λ l1 t1 us e n1 Z ta1 ra1=>?_
 refine Aj0 (k:=λ b=>Am .hid σ1 λ i σ=>k (.zp (S7 l1 b) i) σ) e rv λ l2 t2 ws e n2 Z ta2 ra2=>?_
 refine Dy e λ t' hp e=>Abk ta1 ta2 ?_
 have k3:∀ b o,s1.heap.get? b=some o->(zH3 s1.heap t1 t2).get? b=some o:=λ b o e=>zzc _ (zzc _ (zzc _ e))
 have y3:=Nx.keep x1.st (Ab _ _) s1.toks k3
 have y4:=Nx.push (o:={cls:=.type "tuple",data:=.seq #[.none,.none]}) y3.st hp ⟨_,_,rfl⟩ rfl s1.toks
 have y:=y3.trans (y4.trans (Nx.keep y4.st (Ab _ _) s1.toks (Aw (zH4 s1.heap t1 t2) {cls:=.type "zip",data:=.fields #[.none,.bool false,.bool false,.ref (zH2 s1.heap t1 t2).objs.size,.ref (zH3 s1.heap t1 t2).objs.size]})))
 have g5:IsZip (zH5 s1.heap t1 t2) (zH4 s1.heap t1 t2).objs.size (zH2 s1.heap t1 t2).objs.size (zH3 s1.heap t1 t2).objs.size .none:=zzd _ rfl
 have g3:IsPair (zH5 s1.heap t1 t2) (zH2 s1.heap t1 t2).objs.size (.ref s1.heap.objs.size) (.ref (zH1 s1.heap t1).objs.size):=zzc _ (zzc _ (zzd _ rfl))
 have g2:(zH5 s1.heap t1 t2).IsTupleIter (zH1 s1.heap t1).objs.size t2 0:=⟨_,zzc _ (zzc _ (zzc _ (zzd _ rfl))),rfl,rfl⟩
 have g1:(zH5 s1.heap t1 t2).IsTupleIter s1.heap.objs.size t1 0:=⟨_,zzc _ (zzc _ (zzc _ (zzc _ (zzd _ rfl)))),rfl,rfl⟩
 have z1:(zH1 s1.heap t1).objs.size=s1.heap.objs.size+1:=Heap.size_push ..
 have z2:(zH2 s1.heap t1 t2).objs.size=s1.heap.objs.size+2:=(Heap.size_push ..).trans (congrArg Nat.succ z1)
 have z3:(zH3 s1.heap t1 t2).objs.size=s1.heap.objs.size+3:=(Heap.size_push ..).trans (congrArg Nat.succ z2)
 have z4:(zH4 s1.heap t1 t2).objs.size=s1.heap.objs.size+4:=(Heap.size_push ..).trans (congrArg Nat.succ z3)
 have lt1:t1<s1.heap.objs.size:=ta1.elim λ o e=>Heap.lt_size e.1
 have lt2:t2<s1.heap.objs.size:=ta2.elim λ o e=>Heap.lt_size e.1
 have hnone:∀ b,s1.heap.objs.size≤b->s1.heap.get? b=none:=λ b hb=>Heap.get?_none_of_le hb
 have y:Nx B Ao J1 s1 (J1.add ((zH3 s1.heap t1 t2).objs.size)) ⟨σ1.n+1,t'⟩ {s1 with heap:=zH5 s1.heap t1 t2}:=y
 have ta1':IsTup (zH5 s1.heap t1 t2) t1 us.toArray:=Dh y.g.toGrow0.mv y.ok n1 ta1
 have ta2':IsTup (zH5 s1.heap t1 t2) t2 ws.toArray:=Dh y.g.toGrow0.mv y.ok n2 ta2
 rw [z4]
 generalize zH5 s1.heap t1 t2=H5 at *
 rw [z2,z3,z4] at g5
 rw [z1,z2] at g3
 rw [z1] at g2
 rw [z3] at y
 have hz:∀ {b},isZ (s1.heap.objs.size+4) s1.heap.objs.size (s1.heap.objs.size+1) b->s1.heap.objs.size≤b/\b≠s1.heap.objs.size+3:=λ q=>isZ.el (P:=λ b=>s1.heap.objs.size≤b/\b≠s1.heap.objs.size+3) q ⟨Nat.le_add_right _ 4,λ e=>absurd (Nat.add_left_cancel e) (by decide)⟩ ⟨Nat.le_refl _,λ e=>absurd (Nat.add_left_cancel (m:=0) e) (by decide)⟩ ⟨Nat.le_add_right _ 1,λ e=>absurd (Nat.add_left_cancel e) (by decide)⟩
 have hout:∀ b,s1.heap.objs.size≤b->b≠s1.heap.objs.size+3->¬ (J1.add (s1.heap.objs.size+3)).has b:=λ b hb hne=>Ads (C:=λ a=>a=b->False) (λ a q e=>Nw x1.st (hnone b hb) (e▸q)) (λ e=>hne e.symm) b |> λ f q=>f q rfl
 refine wpAny_pyIter_zip (s:={s1 with heap:=H5}) (z:=s1.heap.objs.size+4) (TI:=s1.heap.objs.size+2) (TO:=s1.heap.objs.size+3) (f0:=.none) g5 ?_
 exact h _ {s1 with heap:=H5} _ (isZ (s1.heap.objs.size+4) s1.heap.objs.size (s1.heap.objs.size+1)) (RZp B (s1.heap.objs.size+4) (s1.heap.objs.size+2) (s1.heap.objs.size+3) s1.heap.objs.size (s1.heap.objs.size+1)) _ _ e y (Ast hR.2.2)
  ⟨λ b q=>⟨hout b (hz q).1 (hz q).2,Mo x1.st (hnone b (hz q).1)⟩,hout _ (Nat.le_add_right _ 2) (λ e=>absurd (Nat.add_left_cancel e) (by decide)),σ1.n,l1,l2,t1,t2,us,ws,0,0,rfl,Ql x1.st _,Axa _ t1 t2 lt1 lt2,g5,g3,g1,g2,ta1.elim λ o q=>Ch.notNew y.g.toGrow0 q.1 n1,ta2.elim λ o q=>Ch.notNew y.g.toGrow0 q.1 n2,ta1',ta2',y.upL ra1,y.upL ra2⟩
  λ b q=>hnone b (hz q).1
end
end
section
def SBt (B:Aq) (T:String) (F:Fn):Prop:=
 ∀ (A:Around) (s:Shared) (J:Aj) (σ:PS) (ps:List PV) (vs:List Value),Cc A 0->St B J σ s.heap->RepL J s.heap ps vs->Aal B A Ao J σ s (call (.type T) vs) (F ps) Agx
section
variable {B:Aq} {d:Nat} {ks:List (Str×NameKind)} {xs:List Str}
theorem A21 {x:Str} {np pos:Pos} {args:List Expr} {T:String} {F:Fn} {l:LF}
  (hx:nsIn B.K mainGlobals x=some none) (hk:ks.lookup x=some .globalImplicit) (hd:(x==("__debug__":Str))=false) (hb:bootBuiltins x=some (.type T)) (hn:x≠"__name__") (hF:SBt B T F) (ha:SEL B d ks xs args l):
  SE B d ks xs (.Call (.Name x np) args [] pos) (Abq F l):=λ A s env ρ J σ hR hE hS k Q E e hQ=>
 Wo hx hk hd hb hn ha hR hE hS e λ vs s1 J1 ps σ1 e x1 r1=>hF A s1 J1 σ1 ps vs (hR.mono (Nat.zero_le _)) x1.st r1 _ Q E e λ v s2 J2 q σ2 e x2 r2=>hQ v s2 J2 q σ2 e (x1.trans x2) r2
def A2h:Fn:=λ ps σ k=>on1 ps λ p=>vC false (λ b=>bC (k (.int 0) σ) (k (.int 1) σ) b) (λ i=>k (.int i) σ) F1 F1 F1 F2 F1 F1 p
theorem At1:SBt B "int" A2h:=λ A s J σ ps vs hR st r k Q E e hQ=>Oc e λ p hp e=>by
 subst hp
 refine r.one λ v hv rv=>?_
 subst hv
 cases p with
 | int i=>exact Eh rv λ t=>call_int_int (hQ _ s J (.int i) σ e (.refl st (Ab _ _)) (C2 _ _))
 | bool b=>
  cases (show v=.bool b from rv)
  cases b with
  | false=>exact call_int_bool (hQ _ _ J (.int 0) σ e (.tok st (Ab _ _) _) (C2 _ _))
  | true=>exact call_int_bool (hQ _ _ J (.int 1) σ e (.tok st (Ab _ _) _) (C2 _ _))
 | _=>exact ff e
def Ap8:Fn:=λ ps σ k=>on1 ps λ p=>Ip (λ n=>k (.rng n) σ) p
theorem Anh:SBt B "range" Ap8:=λ A s J σ ps vs hR st r k Q E e hQ=>Oc e λ p hp e=>by
 subst hp
 refine r.one λ v hv rv=>?_
 subst hv
 exact Ahh (k:=λ n=>k (.rng n) σ) e rv λ n t hn e=>call_range_1 (hQ _ _ J (.rng n) σ e (.keep st (Ab _ _) _ (Aw s.heap {cls:=.type "range",data:=.fields #[.int 0 s.toks,.int n t,.int 1 (s.toks+1)]})) (Aw1 (zzd _ rfl)))
def Il:Fn:=λ ps σ k=>on1 ps λ p=>Ht p σ λ l=>bC false (k (.tup l) σ) (An l)
theorem Ani:SBt B "tuple" Il:=λ A s J σ ps vs hR st r k Q E e hQ=>Oc e λ p hp e=>by
 subst hp
 refine r.one λ v hv rv=>?_
 subst hv
 have key:∀ {a:Addr} {l:List PV} {us:List Value},bC false (k (.tup l) σ) (An l)=true->s.heap.IsList a us.toArray->RepL J s.heap l us->wpAny (model B.prog B.w) A (call (.type "tuple") [.ref a]) Q E s:=λ {a l us} e t rl=>Bs e λ hz e=>
  call_tuple_list t (λ h' hk=>by
   have y:=Nx.keep st (Ab _ _) s.toks hk
   have y2:=y.trans (Nx.keep y.st (Ab _ _) s.toks (Aw h' {cls:=.type "tuple",data:=.seq us.toArray}))
   exact hQ _ _ J (.tup l) σ e y2 (Ek (B5 y.st.idOk) ⟨_,Heap.get?_push_size _ rfl,rfl⟩ ⟨_,Heap.get?_push_size _ rfl,rfl,0,rfl⟩ (y2.upL rl))) (by rw [List.size_toArray,rl.length];exact Nat.le_trans (Ap hz) B0)
 cases p with
 | tup l=>exact Bs (t:=k (.tup l) σ) e λ hz e=>Cw rv λ a us na nd t rl=>call_tuple_same (t:=a) (items:=us.toArray) t (hQ _ s J (.tup l) σ e (.refl st (Ab _ _)) (Ek na nd t rl))
 | lst l=>exact Mu rv λ a us Z t rl=>key e t rl
 | obj i=>exact F7 rv λ a ea=>Cp (k:=λ l=>bC false (k (.tup l) σ) (An l)) e st ea λ l o us n e Z ho hc Z Z hd rl=>key e ⟨o,ho,hc,n,hd⟩ rl
 | _=>exact ff e
def Aq7 (l:List PV) (a:Nat) (k:Nat->Bool):Bool:=@List.rec _ (λ Z=>Nat->Bool) k (λ p Z ih a=>Ip (λ n=>nF ih (Nat.add a n)) p) l a
theorem Awy {J:Aj} {h:Heap} {k:Nat->Bool}:∀ {l:List PV} {a:Nat} {vs:List Value},Aq7 l a k=true->RepL J h l vs ->
  ∃ (xs:List (Int×Tok)) (t:Nat),vs=(xs.map λ p=>Value.int p.1 p.2)/\(t:Int)=a+(xs.map (·.1)).sum/\k t=true
 | [],a,vs,e,r=>C8 (P:=λ vs=>∃ (xs:List (Int×Tok)) (t:Nat),vs=(xs.map λ p=>Value.int p.1 p.2)/\(t:Int)=a+(xs.map (·.1)).sum/\k t=true) r ⟨[],a,rfl,(Int.add_zero _).symm,e⟩
 | p::l,a,vs,e,r=>A8 (P:=λ vs=>∃ (xs:List (Int×Tok)) (t:Nat),vs=(xs.map λ p=>Value.int p.1 p.2)/\(t:Int)=a+(xs.map (·.1)).sum/\k t=true) r λ v w rv rl=>by
  refine Ahh (k:=λ n=>nF (Aq7 l · k) (Nat.add a n)) e rv λ n t hn e=>?_
  obtain ⟨xs,t',h1,h3,h4⟩:=Awy (l:=l) (a:=a+n) ((nF_ (Aq7 l · k) _).symm.trans e) rl
  refine ⟨((n:Int),t)::xs,t',by rw [h1];rfl,?_,h4⟩
  rw [h3,List.map_cons,List.sum_cons,Int.natCast_add,Int.add_assoc]
theorem Vc (f:Nat->Int) (g:List Int) (hf:∀ i,f i=(g[i]?).getD 0):∀ k,k≤g.length->preSum f k=(g.take k).sum
 | 0,_=>by simp [preSum]
 | k+1,hk=>by
  have ih:=Vc f g hf k (Nat.le_of_succ_le hk)
  show preSum f k+f k=_
  rw [ih,hf k,List.getElem?_eq_getElem hk,List.take_succ_eq_append_getElem hk,List.sum_append]
  simp
def A2k:Fn:=λ ps σ k=>on1 ps λ p=>Ff p σ λ l=>bC false (Aq7 l 0 λ n=>k (.int (Int.ofNat n)) σ) (An l)
theorem At0:SBi B "sum" A2k:=λ A s J σ ps vs hR st r k Q E e hQ=>Oc e λ p hp e=>by
 subst hp
 refine r.one λ v hv rv=>?_
 subst hv
 refine Aa3 (k:=λ l=>bC false (Aq7 l 0 λ n=>k (.int (Int.ofNat n)) σ) (An l)) e st rv λ l a us e t rl=>Bs e λ hz e=>?_
 obtain ⟨xs,n,h1,h3,e⟩:=Awy e rl
 have hnum:∀ i,numAt xs.toArray i=((xs.map (·.1))[i]?).getD 0:=λ i=>by unfold numAt;simp
 rw [h1] at t
 refine sum_intListG (xs:=xs.toArray) hR.2.2 (by unfold intItems;rw [List.map_toArray];exact t) λ h' tk t' hk=>?_
 refine hQ _ _ J (.int (Int.ofNat n)) σ e (.keep st (Ab _ _) tk hk) ?_
 have e3:preSum (numAt xs.toArray) xs.toArray.size=(n:Int):=by
  rw [Vc _ (xs.map (·.1)) hnum _ (by rw [List.length_map];exact Nat.le_refl _),List.take_of_length_le (by rw [List.length_map];exact Nat.le_refl _),h3]
  exact (Int.zero_add _).symm
 rw [e3]
 exact C2 _ _
end
end
section
section
variable {B:Aq} {d:Nat} {ks:List (Str×NameKind)} {xs:List Str}
def Am2 (l:List PV) (a:Nat) (k:Nat->Bool):Bool:=@List.rec _ (λ Z=>Nat->Bool) k (λ p Z ih a=>Ip (λ n=>bC (ih a) (ih n) (Nat.blt a n)) p) l a
def Anz (vs:List Value) (a:Nat) (k:Nat->Bool):Prop:=∃ (xs:List (Int×Tok)) (n:Nat),vs=(xs.map λ p=>Value.int p.1 p.2)/\a≤n/\(∀ x∈xs.map (·.1),x≤(n:Int))/\(n=a\/(n:Int)∈xs.map (·.1))/\k n=true
theorem Apq {J:Aj} {h:Heap} {k:Nat->Bool}:∀ {l:List PV} {a:Nat} {vs:List Value},Am2 l a k=true->RepL J h l vs->Anz vs a k
 | [],a,vs,e,r=>C8 (P:=λ vs=>Anz vs a k) r ⟨[],a,rfl,Nat.le_refl _,λ x hx=>absurd hx zzj,.inl rfl,e⟩
 | p::l,a,vs,e,r=>A8 (P:=λ vs=>Anz vs a k) r λ v w rv rl=>by
  refine Ahh (k:=λ n=>bC (Am2 l a k) (Am2 l n k) (Nat.blt a n)) e rv λ n t hn e=>?_
  cases hb:Nat.blt a n with
  | true=>
   rw [hb] at e
   have hb:a<n:=zzi hb
   obtain ⟨xs,m,h1,h2,h3,h4,h5⟩:=Apq (l:=l) (a:=n) e rl
   exact ⟨((n:Int),t)::xs,m,by rw [h1];rfl,Nat.le_trans (Nat.le_of_lt hb) h2,λ x hx=>(List.mem_cons.mp hx).elim (λ q=>q▸Int.ofNat_le.mpr h2) (h3 x),.inr (h4.elim (λ q=>q▸List.mem_cons_self) (List.mem_cons_of_mem _)),h5⟩
  | false=>
   rw [hb] at e
   have hb:n≤a:=Nat.le_of_not_lt λ q=>Bool.false_ne_true (hb.symm.trans (Nat.ble_eq_true_of_le q))
   obtain ⟨xs,m,h1,h2,h3,h4,h5⟩:=Apq (l:=l) (a:=a) e rl
   exact ⟨((n:Int),t)::xs,m,by rw [h1];rfl,h2,λ x hx=>(List.mem_cons.mp hx).elim (λ q=>q▸Int.ofNat_le.mpr (Nat.le_trans hb h2)) (h3 x),h4.imp id (List.mem_cons_of_mem _),h5⟩
theorem U2 (v:Nat->Int):∀ k,argBest (λ i j=>decide (v i>v j)) k≤k/\∀ i,i≤k->v i≤v (argBest (λ i j=>decide (v i>v j)) k)
 | 0=>⟨Nat.le_refl _,λ i hi=>by rw [Nat.le_zero.mp hi];exact Int.le_refl _⟩
 | k+1=>by
  obtain ⟨h1,h2⟩:=U2 v k
  have ea:argBest (λ i j=>decide (v i>v j)) (k+1)=if v (k+1)>v (argBest (λ i j=>decide (v i>v j)) k) then k+1 else argBest (λ i j=>decide (v i>v j)) k:=by
   show (if decide (v (k+1)>v (argBest (λ i j=>decide (v i>v j)) k))=true then _ else _)=_
   simp only [decide_eq_true_eq]
  rw [ea]
  by_cases hc:v (k+1)>v (argBest (λ i j=>decide (v i>v j)) k)
  ·rw [if_pos hc]
   exact ⟨Nat.le_refl _,λ i hi=>(Nat.lt_or_eq_of_le hi).elim (λ q=>Int.le_trans (h2 i (Nat.le_of_lt_succ q)) (Int.le_of_lt hc)) λ q=>q▸Int.le_refl _⟩
  ·rw [if_neg hc]
   exact ⟨Nat.le_succ_of_le h1,λ i hi=>(Nat.lt_or_eq_of_le hi).elim (λ q=>h2 i (Nat.le_of_lt_succ q)) λ q=>q▸Int.not_lt.mp hc⟩
def A5k (p q:PV) (k:Int->Bool):Bool:=Eu (λ a=>Eu (λ b=>ltI a b λ c=>bC (k a) (k b) c) q) p
def Ayv:Fn:=λ ps σ k=>lC false (λ p r=>lC (Ff p σ λ l=>lC false (λ q r=>Ip (λ a=>Am2 r a λ n=>k (.int (Int.ofNat n)) σ) q) l) (λ q r=>lC (A5k p q λ i=>k (.int i) σ) F2 r) r) ps
theorem Atx:SBi B "max" Ayv:=λ A s J σ ps vs hR st r k Q E e hQ=>by
 cases ps with
 | nil=>exact ff e
 | cons p ps=>
  cases ps with
  | nil=>
   refine r.one λ v hv rv=>?_
   subst hv
   refine Aa3 (k:=λ l=>lC false (λ q r=>Ip (λ a=>Am2 r a λ n=>k (.int (Int.ofNat n)) σ) q) l) e st rv λ l a us e t rl=>?_
   cases l with
   | nil=>exact ff e
   | cons q l=>
    refine A8 (P:=λ us'=>us=us'->_) rl (λ v w rv rl hus=>?_) rfl
    refine Ahh (P:=λ v=>us=v::w->_) (k:=λ a=>Am2 l a λ n=>k (.int (Int.ofNat n)) σ) e rv (λ m tm hm e hus=>?_) hus
    obtain ⟨xs,n,h1,h2,h3,h4,e⟩:=Apq e rl
    have hit:us.toArray=intItems (((m:Int),tm)::xs).toArray:=by rw [hus,h1];unfold intItems;rw [List.map_toArray];rfl
    rw [hit] at t
    refine max_intList hR.2.2 t (by simp) λ w h' tk hw hk=>?_
    obtain ⟨tt,rfl⟩:=intItems_at hw
    refine hQ _ _ J (.int (Int.ofNat n)) σ e (.keep st (Ab _ _) tk hk) ?_
    have hall:∀ i,i<(((m:Int),tm)::xs).length->∃ z∈(m:Int)::xs.map (·.1),numAt (((m:Int),tm)::xs).toArray i=z:=λ i hi=>⟨(((m:Int),tm)::xs)[i].1,(List.mem_map.mpr ⟨_,List.getElem_mem hi,rfl⟩:(((m:Int),tm)::xs)[i].1∈(((m:Int),tm)::xs).map (·.1)),by unfold numAt;rw [List.getElem?_toArray,List.getElem?_eq_getElem hi];rfl⟩
    have hex:∃ i,i<(((m:Int),tm)::xs).length/\numAt (((m:Int),tm)::xs).toArray i=(n:Int):=by
     have:(n:Int)∈(((m:Int),tm)::xs).map (·.1):=h4.elim (λ q=>q▸zzf) (zze _)
     obtain ⟨z,hz,ez⟩:=List.mem_map.mp this
     obtain ⟨i,hi,e1⟩:=List.mem_iff_getElem.mp hz
     exact ⟨i,hi,by unfold numAt;rw [List.getElem?_toArray,List.getElem?_eq_getElem hi,e1];exact ez⟩
    obtain ⟨b1,b2⟩:=U2 (numAt (((m:Int),tm)::xs).toArray) xs.length
    have key:numAt (((m:Int),tm)::xs).toArray (argBest (λ i j=>decide (numAt (((m:Int),tm)::xs).toArray i>numAt (((m:Int),tm)::xs).toArray j)) xs.length)=(n:Int):=by
     refine Int.le_antisymm ?_ ?_
     ·obtain ⟨z,hz,ez⟩:=hall _ (Nat.lt_succ_of_le b1)
      rw [ez]
      exact (List.mem_cons.mp hz).elim (λ q=>q▸Int.ofNat_le.mpr h2) (h3 z)
     ·obtain ⟨i,hi,ez⟩:=hex
      exact ez▸b2 i (Nat.le_of_lt_succ hi)
    have hsz:(((m:Int),tm)::xs).toArray.size - 1=xs.length:=rfl
    rw [hsz,key]
    exact C2 _ _
  | cons q ps=>
   cases ps with
   | cons _ _=>exact ff e
   | nil=>
    refine r.two λ u v hv ru rv=>?_
    subst hv
    refine Ud (k:=λ a=>Eu (λ b=>ltI a b λ c=>bC (k (.int a) σ) (k (.int b) σ) c) q) e ru λ a t e=>Ud (k:=λ b=>ltI a b λ c=>bC (k (.int a) σ) (k (.int b) σ) c) e rv λ c t' e=>max_two_ints hR.2.2 λ h' tk hk=>?_
    rw [Aaq] at e
    by_cases hb:a<c
    ·rw [decide_eq_true hb] at e
     rw [if_pos hb]
     exact hQ _ _ J (.int c) σ e (.keep st (Ab _ _) tk hk) (C2 _ _)
    ·rw [decide_eq_false hb] at e
     rw [if_neg hb]
     exact hQ _ _ J (.int a) σ e (.keep st (Ab _ _) tk hk) (C2 _ _)
def Gw (j:Nat) (k:Nat->Bool):Bool:=@Nat.rec (λ Z=>Bool) true (λ r ih=>bC false ih (k r)) j
theorem Akc {k:Nat->Bool}:∀ {j:Nat},Gw j k=true->∀ r,r<j->k r=true
 | 0,_,_,h=>absurd h (Nat.not_lt_zero _)
 | j+1,e,r,h=>Bs (b:=k j) (t:=Gw j k) e λ e1 e2=>(Nat.lt_or_eq_of_le (Nat.le_of_lt_succ h)).elim (Akc e2 r) λ q=>q▸e1
def vIS (int:Int->Bool) (sym:Nat->Bool) (p:PV):Bool:=@PV.rec (λ Z=>Bool) (λ Z=>Unit) false F1 int F1 (λ Z Z=>false) (λ Z Z=>false) F2 F1 F1 sym () (λ Z Z Z Z=>()) p
def A2j:Fn:=λ ps σ k=>on2 ps λ p q=>vIS (λ a=>Eu (λ b=>ltI b a λ c=>bC (k (.int a) σ) (k (.int b) σ) c) q) (λ n=>Ip (λ b=>k (.sym (@Bool.rec (λ Z=>Nat) n (Nat.succ b) (Nat.blt b n))) σ) q) p
theorem Aps {A:Around} {s:Shared} {J:Aj} {σ:PS} {a c:Int} {t t':Tok} {Q E:Value->Shared->Prop} (hR:Cc A 0) (st:St B J σ s.heap) (h:∀ tk s',Nx B Ao J s J σ s'->Q (.int (min a c) tk) s'):wpAny (model B.prog B.w) A (call (.builtin "min") [.int a t,.int c t']) Q E s:=min_two_ints hR.2.2 λ h' tk hk=>by
 by_cases hb:c<a
 ·rw [if_pos hb]
  exact (show min a c=c from Int.min_eq_right (Int.le_of_lt hb))▸h _ _ (.keep st (Ab _ _) tk hk)
 ·rw [if_neg hb]
  exact (show min a c=a from Int.min_eq_left (Int.not_lt.mp hb))▸h _ _ (.keep st (Ab _ _) tk hk)
theorem Aty:SBi B "min" A2j:=λ A s J σ ps vs hR st r k Q E e hQ=>Yr e λ p q hp e=>by
 subst hp
 refine r.two λ u v hv ru rv=>?_
 subst hv
 cases p with
 | int a=>
  refine Eh ru λ t=>Ud (k:=λ b=>ltI b a λ c=>bC (k (.int a) σ) (k (.int b) σ) c) e rv λ c t' e=>Aps hR st λ tk s' x=>?_
  rw [Aaq] at e
  by_cases hb:c<a
  ·rw [decide_eq_true hb] at e
   exact hQ _ s' J (.int c) σ e x (by rw [show min a c=c from Int.min_eq_right (Int.le_of_lt hb)];exact C2 _ _)
  ·rw [decide_eq_false hb] at e
   exact hQ _ s' J (.int a) σ e x (by rw [show min a c=a from Int.min_eq_left (Int.not_lt.mp hb)];exact C2 _ _)
 | sym n=>
  obtain ⟨i,t,hi,rfl⟩:=(ru:∃ (i:Nat) (t:Tok),i<n/\u=.int (Int.ofNat i) t)
  refine Ahh (k:=λ b=>k (.sym (@Bool.rec (λ Z=>Nat) n (Nat.succ b) (Nat.blt b n))) σ) e rv λ b t' hb e=>Aps hR st λ tk s' x=>?_
  have hm:min (Int.ofNat i) (b:Int)=Int.ofNat (min i b):=by show min (i:Int) b=((min i b:Nat):Int);omega
  refine hQ _ s' J (.sym _) σ e x ⟨min i b,tk,?_,by rw [hm]⟩
  cases hc:Nat.blt b n with
  | true=>exact Nat.lt_succ_of_le (Nat.min_le_right _ _)
  | false=>exact Nat.lt_of_le_of_lt (Nat.min_le_left _ _) hi
 | _=>exact ff e
def dig (i:Int) (k:PV->Bool):Bool:=@Int.rec (λ Z=>Bool) (λ n=>bC false (nF (λ c=>k (.str (Nat.succ c))) (Nat.add 48 n)) (Nat.blt n 10)) F1 i
theorem A4y {C:Prop} {i:Int} {k:PV->Bool} (e:dig i k=true) (H:∀ n:Nat,i=(n:Int)->(n:Int).natAbs.log2<1920->(Str.ofString (toString (n:Int)))=⟨(Ba (Nat.succ (48+n))).toArray⟩->k (.str (Nat.succ (48+n)))=true->C):C:=by
 cases i with
 | negSucc n=>exact ff e
 | ofNat n=>
  refine Bs e λ hb e=>H n rfl ?_ ?_ ((nF_ _ _).symm.trans e)
  ·exact (by decide +kernel:∀ n,n<10->((n:Nat):Int).natAbs.log2<1920) n (zzi hb)
  ·have hb:n<10:=zzi hb
   rw [Wr (Nat.lt_trans (Nat.add_lt_add_left hb 48) (by decide))]
   exact (by decide +kernel:∀ n,n<10->Str.ofString (toString ((n:Nat):Int))=⟨[48+n].toArray⟩) n hb
@[elab_as_elim] theorem A3j {J:Aj} {h:Heap} {i:Int} {v:Value} {k:PV->Bool} {P:Value->Prop} (e:dig i k=true) (r:Ae J h (.int i) v) (H:∀ (n:Nat) t,(n:Int).natAbs.log2<1920->(Str.ofString (toString (n:Int)))=⟨(Ba (Nat.succ (48+n))).toArray⟩->k (.str (Nat.succ (48+n)))=true->P (.int (n:Int) t)):P v:=
 Eh r λ t=>A4y e λ n hi hl hs e=>hi▸H n t hl hs e
def A5z:Fn:=λ ps σ k=>on1 ps λ p=>Eu (λ i=>dig i λ p=>k p σ) p
theorem At2:SBt B "str" A5z:=λ A s J σ ps vs hR st r k Q E e hQ=>Oc e λ p hp e=>by
 subst hp
 refine r.one λ v hv rv=>?_
 subst hv
 obtain ⟨i,rfl,e⟩:=S6 e
 exact A3j (k:=λ p=>k p σ) e rv λ n t hl hs e=>PySem.P.str_of_int hl (hQ _ _ J _ σ e (.tok st (Ab _ _) (s.toks+1)) (Ep _ hs))
def Ar9 (f:EF):EF:=λ ρ σ k=>f ρ σ λ p σ=>vC false F1 (λ i=>dig i λ p=>k p σ) (λ x=>bC false (k (.str x) σ) (An (Ba x))) F1 F1 F2 F1 F1 p
theorem Azo {value:Expr} {pos:Pos} {f:EF} (hv:SE B d ks xs value f):SE B d ks xs (.FormattedValue value (-1) none pos) (Ar9 f):=λ A s env ρ J σ hR hE hS k Q E e hQ=>by
 refine PyProof.Rows.FormattedValue_plain (hv A s env ρ J σ hR hE hS _ _ E e λ v s1 J1 p σ1 e x1 r1=>?_)
 cases p with
 | str x=>
  refine Bs (t:=k (.str x) σ1) e λ hz e=>Ei r1 λ t=>PyProof.Rows.formatField_str (λ t' tk=>hQ _ _ J1 _ σ1 e (x1.toks tk) (Ep _ rfl)) ?_
  show (Ba x).toArray.size≤sizeLine
  rw [List.size_toArray]
  exact Nat.le_trans (Ap hz) B0
 | int i=>exact A3j (k:=λ p=>k p σ1) e r1 λ n t hl hs e=>PyProof.Rows.formatField_int_small hl (hQ _ _ J1 _ σ1 e (x1.toks _) (Ep _ hs))
 | _=>exact ff e
def Akn (f g:EF):EF:=λ ρ σ k=>f ρ σ λ p σ=>El (λ a=>bC false (g ρ σ λ q σ=>El (λ b=>bC false (nF (λ s=>k (.str s) σ) (Ag0 a b)) (An (Ba b))) q) (An (Ba a))) p
theorem At6 {x y:Expr} {pos:Pos} {f g:EF} (hx:SE B d ks xs x f) (hy:SE B d ks xs y g):SE B d ks xs (.JoinedStr [x,y] pos) (Akn f g):=λ A s env ρ J σ hR hE hS k Q E e hQ=>by
 refine PyProof.Rows.JoinedStr_many (PyProof.Rows.joinParts_cons (hx A s env ρ J σ hR hE hS _ _ E e λ v s1 J1 p σ1 e x1 r1=>?_))
 refine Aej (k:=λ a=>bC false (g ρ σ1 λ q σ=>El (λ b=>bC false (nF (λ s=>k (.str s) σ) (Ag0 a b)) (An (Ba b))) q) (An (Ba a))) e r1 λ a t e=>Bs e λ z1 e=>?_
 have z1:=Ap z1
 have h0:Str.empty++(⟨(Ba a).toArray⟩:Str)=⟨(Ba a).toArray⟩:=congrArg Str.mk (Array.empty_append)
 show (Str.empty++(⟨(Ba a).toArray⟩:Str)).length≤sizeLine/\wpAny (model B.prog B.w) A (joinParts (Str.empty++(⟨(Ba a).toArray⟩:Str)) (eval y env::evalEach [] env)) Q E s1
 rw [h0]
 refine ⟨by show (Ba a).toArray.size≤sizeLine;rw [List.size_toArray];exact Nat.le_trans z1 B0,PyProof.Rows.joinParts_cons (hy A s1 env ρ J1 σ1 hR (hE.up x1) x1.st _ _ E e λ w s2 J2 q σ2 e x2 r2=>?_)⟩
 refine Aej (k:=λ b=>bC false (nF (λ s=>k (.str s) σ2) (Ag0 a b)) (An (Ba b))) e r2 λ b t' e=>Bs e λ z2 e=>?_
 have hcat:(⟨(Ba a).toArray⟩:Str)++(⟨(Ba b).toArray⟩:Str)=⟨(Ba (Ag0 a b)).toArray⟩:=by rw [Adf];exact congrArg Str.mk (List.append_toArray _ _)
 have hsz:(Ba (Ag0 a b)).toArray.size≤sizeLine:=by rw [List.size_toArray,Adf,List.length_append];exact sz2 z1 (Ap z2)
 show ((⟨(Ba a).toArray⟩:Str)++(⟨(Ba b).toArray⟩:Str)).length≤sizeLine/\wpAny (model B.prog B.w) A (joinParts ((⟨(Ba a).toArray⟩:Str)++(⟨(Ba b).toArray⟩:Str)) (evalEach [] env)) Q E s2
 rw [hcat]
 exact ⟨hsz,PyProof.Rows.joinParts_nil (hQ _ _ J2 _ σ2 ((nF_ _ _).symm.trans e) ((x1.trans x2).toks _) (Ep _ rfl)) hsz⟩
def Mk (c:Nat):Bool:=bC (bC false (bC (bC false (Nat.ble c 31) (Nat.ble 28 c)) true (Nat.ble c 13)) (Nat.ble 9 c)) true (Nat.beq c 32)
def Ap6:Fn:=λ ps σ k=>on1 ps λ p=>El (λ a=>lC false (λ c r=>lC (bC false (bC (k (.bool false) σ) (k (.bool true) σ) (Mk c)) (Nat.blt c 128)) F2 r) (Ba a)) p
theorem Ag1:SBi B "str.isspace" Ap6:=λ A s J σ ps vs hR st r k Q E e hQ=>Oc e λ p hp e=>by
 subst hp
 refine r.one λ v hv rv=>?_
 subst hv
 refine Aej (k:=λ a=>lC false (λ c r=>lC (bC false (bC (k (.bool false) σ) (k (.bool true) σ) (Mk c)) (Nat.blt c 128)) F2 r) (Ba a)) e rv λ a t e=>?_
 refine call_gives PySem.F.slot_str_isspace (typeIs_str _ _ _) PySem.F.entry_str_isspace (PySem.F.args_str_isspace_1 _) (gives_str_isspace _ t) (?_:(Made.val _).post _ _)
 cases hc:Ba a with
 | nil=>rw [hc] at e;exact ff e
 | cons c l=>
  rw [hc] at e
  cases l with
  | cons _ _=>exact ff e
  | nil=>
   refine Bs e λ hz e=>?_
   have e2:((Str.mk [c].toArray).length>0&&(Str.mk [c].toArray).cps.all Unicode.isSpace)=Mk c:=(by decide +kernel:∀ c,c<128->Txt.isspace ⟨[c].toArray⟩=Mk c) c (zzi hz)
   rw [e2]
   cases hb:Mk c with
   | true=>rw [hb] at e;exact hQ _ s J _ σ e (.refl st (Ab _ _)) (Zb _)
   | false=>rw [hb] at e;exact hQ _ s J _ σ e (.refl st (Ab _ _)) (Zb _)
end
end
section
theorem RepL.uncons {J:Aj} {h:Heap} {p:PV} {l:List PV} {v:Value} {vs:List Value} (r:RepL J h (p::l) (v::vs)):Ae J h p v/\RepL J h l vs:=A8 (P:=λ us=>v::vs=us->Ae J h p v/\RepL J h l vs) r (λ v us a b q=>by cases q;exact ⟨a,b⟩) rfl
def stL (kn:List Nat):List PV:=@List.rec _ (λ Z=>List PV) [] (λ c Z ih=>.str c::ih) kn
def A2p (kn:List Nat):Aj->Heap->List PV->List (Value×Value)->Prop:=λ J h ps vs=>RepL J h (stL kn) (vs.map (·.1))/\RepL J h ps (vs.map (·.2))
section
variable {B:Aq} {d:Nat} {ks:List (Str×NameKind)} {xs:List Str}
def SEV (B:Aq) (d:Nat) (ks:List (Str×NameKind)) (xs:List Str) (keys:List (Option Expr)) (values:List Expr) (kn:List Nat) (l:LF):Prop:=
 ∀ (A:Around) (env:Env) (pos:Pos),Cc A d->∃ pairs:List (Sem Value×Sem Value),(evalEachOpt keys env).zip ((evalEach values env).map λ v=>do let x<-v;standAt pos;pure x)=pairs.map (λ p=>(some p.1,p.2))/\pairs.length=kn.length /\
  ∀ (s:Shared) (ρ:Ax) (J:Aj) (σ:PS),As ks xs env ρ J s.heap->St B J σ s.heap->Aal B A Ao J σ s (evalPairs pairs) (l ρ) (A2p kn)
theorem Auq:SEV B d ks xs [] [] [] Asy:=λ A env pos hR=>⟨[],rfl,rfl,λ s ρ J σ hE st k Q E e hQ=>zzb (hQ _ s J _ σ e (.refl st (Ab _ _)) ⟨Cx,Cx⟩)⟩
theorem Aq0 {x:Str} {kk:Nat} {kp:Pos} {c:Nat} {keys:List (Option Expr)} {v:Expr} {values:List Expr} {kn:List Nat} {f:EF} {l:LF} (hx:x.cps.toList=Ba c) (hv:SE B d ks xs v f) (hs:SEV B d ks xs keys values kn l):
  SEV B d ks xs (some (.Constant (.str x) kk kp)::keys) (v::values) (c::kn) (Af9 f l):=λ A env pos hR=>by
 obtain ⟨pairs,h1,h2,h3⟩:=hs A env pos hR
 refine ⟨(eval (.Constant (.str x) kk kp) env,do let x<-eval v env;standAt pos;pure x)::pairs,?_,congrArg Nat.succ h2,λ s ρ J σ hE st k Q E e hQ=>?_⟩
 ·show (some (eval (.Constant (.str x) kk kp) env),(do let x<-eval v env;standAt pos;pure x))::((evalEachOpt keys env).zip ((evalEach values env).map λ v=>do let x<-v;standAt pos;pure x))=_
  rw [h1];rfl
 ·refine evalPairs_cons (Constant_str (zza (hv A {s with toks:=s.toks+1} env ρ J σ hR hE st _ _ E e λ u s1 J1 p σ1 e x1 r1=>zza (wpAny_standAt (zzb ?_)))))
  have x1:=(Nx.tok st (Ab _ _) (s.toks+1)).trans x1
  exact h3 s1 ρ J1 σ1 (hE.up x1) x1.st _ _ E e λ vs s2 J2 ps σ2 e x2 r2=>hQ _ s2 J2 _ σ2 e (x1.trans x2) ⟨Bd (Ep _ (by rw [<- hx])) r2.1,Bd (x2.up r1) r2.2⟩
theorem Ar8 {A:Around} {s:Shared} {J:Aj} {σ:PS} {i:Nat} {a:Addr} {k q:PV} {kv v:Value} {κ:PS->Bool} {Q:Unit->Shared->Prop} {E:Value->Shared->Prop} (hu:A.units+30<cLine)
  (e:V0 i σ (λ kvs f=>bC false (bC false (Vy k q kvs λ kvs=>Cb i (.dict kvs f) σ κ) (An kvs)) (Co k kvs))=true) (st:St B J σ s.heap) (ea:J.l[i]?=some a) (rk:Ae J s.heap k kv) (rv:Ae J s.heap q v)
  (h:∀ s' σ',κ σ'=true->Nx B Ao J s J σ' s'->Q () s'):wpAny (model B.prog B.w) A (dictSet a kv v) Q E s:=
 DK.of (c:=λ kvs f=>bC false (Vy k q kvs λ kvs=>Cb i (.dict kvs f) σ κ) (An kvs)) e st ea rk λ es n kvs f x lo e=>Bs e λ hz e=>Aoo hu (Ap hz) x rv e λ kvs' h' tk o' e hs ho hr=>M0 e λ t' hp e=>h _ _ e (Nx.set st ea tk hs ho hp hr)
def Aif (i:Nat) (kn:List Nat):List PV->PS->(PS->Bool)->Bool:=@List.rec _ (λ Z=>List PV->PS->(PS->Bool)->Bool) (λ ps σ k=>lC (k σ) F2 ps) (λ q Z ih ps σ k=>lC false (λ p r=>V0 i σ λ kvs f=>bC false (bC false (Vy (.str q) p kvs λ kvs=>Cb i (.dict kvs f) σ λ σ=>ih r σ k) (An kvs)) (Co (.str q) kvs)) ps) kn
theorem Aki {A:Around} {E:Value->Shared->Prop} {a:Addr} {i:Nat} {Q:PUnit->Shared->Prop} {k:PS->Bool} {J:Aj} (hu:A.units+30<cLine) (ea:J.l[i]?=some a):∀ (kn:List Nat) (ps:List PV) (vs:List (Value×Value)) (σ:PS) (s:Shared),
  Aif i kn ps σ k=true->A2p kn J s.heap ps vs->St B J σ s.heap->(∀ s' σ',k σ'=true->Nx B Ao J s J σ' s'->Q PUnit.unit s') ->
  wpAny (model B.prog B.w) A (forIn vs PUnit.unit λ (x:Value×Value) (_:PUnit)=>(do dictSet a x.1 x.2;pure (ForInStep.yield PUnit.unit):Sem (ForInStep PUnit))) Q E s
 | [],ps,vs,σ,s,e,r,st,hQ=>by
  cases vs with
  | cons x vs=>exact nomatch (show Nat.succ _=0 from r.1.length)
  | nil=>
   rw [List.forIn_nil]
   cases ps with
   | nil=>exact zzb (hQ s σ e (.refl st (Ab _ _)))
   | cons p ps=>exact ff e
 | q::kn,ps,vs,σ,s,e,r,st,hQ=>by
  cases vs with
  | nil=>exact nomatch (show 0=Nat.succ _ from r.1.length)
  | cons x vs=>
   cases ps with
   | nil=>exact ff e
   | cons p ps=>
    rw [List.forIn_cons]
    obtain ⟨r1,r2⟩:=RepL.uncons r.1
    obtain ⟨r3,r4⟩:=RepL.uncons r.2
    exact zza (zza (Ar8 hu e st ea r1 r3 λ s1 σ1 e x1=>zzb (Aki hu ea kn ps vs σ1 s1 e ⟨x1.upL r2,x1.upL r4⟩ x1.st λ s2 σ2 e x2=>hQ s2 σ2 e (x1.trans x2))))
theorem Aos {w:World} {J:Aj} {h:Heap}:Ef w J h (.dict [] true) {cls:=.type "dict",data:=.dict #[]}:=⟨⟨rfl,rfl,rfl⟩,⟨⟨1,by decide,λ x hx=>absurd hx zzj⟩,List.nodup_nil⟩,[],0,rfl,(λ Z=>rfl),.nil⟩
def Avr (kn:List Nat) (l:LF):EF:=λ ρ σ k=>Am (.dict [] true) σ λ i σ=>l ρ σ λ ps σ=>Aif i kn ps σ λ σ=>k (.obj i) σ
theorem At9 {keys:List (Option Expr)} {values:List Expr} {kn:List Nat} {pos:Pos} {l:LF} (hs:SEV B d ks xs keys values kn l) (hk:kn≠[]) (hle:kn.length≤15):SE B d ks xs (.Dict keys values pos) (Avr kn l):=λ A s env ρ J σ hR hE hS k Q E e hQ=>Dy e λ t' hp e=>by
 obtain ⟨pairs,h1,h2,h3⟩:=hs A env pos hR
 have hu:A.units+30<cLine:=Nat.lt_of_le_of_lt (by omega) hR.2.1
 have hne:pairs≠[]:=λ q=>hk (by rw [q] at h2;exact List.eq_nil_of_length_eq_zero h2.symm)
 rw [arm_eval_Dict,h1,dictDisplay_pairs pairs hne (by omega)]
 refine zza (wpAny_standAt (zza ?_))
 unfold subDict
 refine zza (wpAny_alloc (zza (zzg ?_)))
 rw [if_pos (h2▸hle)]
 have x1:=Nx.push (o:={cls:=.type "dict",data:=.dict #[]}) hS hp Aos rfl s.toks
 refine zza (h3 {s with heap:=s.heap.push {cls:=.type "dict",data:=.dict #[]}} ρ _ _ (hE.up x1) x1.st _ _ E e λ vs s2 J2 ps σ2 e x2 r2=>zzg (zza ?_))
 have ei:J2.l[σ.n]?=some s.heap.objs.size:=Df x2.g.pre (Ql hS _)
 exact Aki hu ei kn ps vs σ2 s2 e r2 x2.st λ s3 σ3 e x3=>zzb (zzb (zzb (hQ _ s3 J2 (.obj σ.n) σ3 e (x1.trans (x2.trans x3)) (Vi ei))))
def Aor:EF:=λ Z σ k=>Am (.dict [] true) σ λ i σ=>k (.obj i) σ
theorem Aqs {pos:Pos}:SE B d ks xs (.Dict [] [] pos) Aor:=λ A s env ρ J σ hR hE hS k Q E e hQ=>Dy e λ t' hp e=>by
 rw [eval_Dict_empty]
 exact zza (wpAny_standAt (wpAny_newObj_type (hQ _ _ _ (.obj σ.n) _ e (Nx.push (o:={cls:=.type "dict",data:=.dict #[]}) hS hp Aos rfl s.toks) (Vi (Ql hS _)))))
theorem Aow (l:Addr) (items:Array Value) (n:Nat) (b:Addr) (items2:Array Value) (n2:Nat) (dd:Option Addr) (sl:Array (Option Value)) (hc0:¬(!items.isEmpty&&Builtin.List.listTooLong (items.size+items2.size))=true) (hc1:items.size≤sizeLine) (hs2:items.size+items2.size≤sizeLine+1):
  Meets (Builtin.«list.extend» ⟨[.ref l,.ref b],[]⟩) (λ Z R s=>s.heap.get? l=some {cls:=.type "list",dict:=none,data:=.seq items n,slots:=#[]}/\s.heap.get? b=some {cls:=.type "list",dict:=dd,data:=.seq items2 n2,slots:=sl}/\R (.ok (.ret Value.none)) {s with heap:=s.heap.update l (Obj.mapSeq λ x=>x++items2),toks:=s.toks}):=.of_wp λ prog w A R s h=>by
 obtain ⟨hp,g,d,tk,os⟩:=s
 obtain ⟨hl,hb,h⟩:=h
 have f1:=sub_list_list
 have f2:=sub_list_tuple
 have hz:(items++items2).size≤sizeLine+1:=by rw [Array.size_append];exact hs2
 wp_walk using (wpAny_updateSeq hl rfl (hz:=hc1) (_hz':=hz)),AutoSeq1.wpAny_loadPart' hl,AutoSeq1.wpAny_loadPart' hb
 exact ⟨_,rfl,h⟩
def Gm:Fn:=λ ps σ k=>on2 ps λ p q=>Qq (λ i=>Qm i σ λ l=>Ff q σ λ l'=>Ac6 l l' λ l=>Cb i (.list l) σ (k .none)) p
theorem Aje:SBi B "list.extend" Gm:=λ A s J σ ps vs hR st r k Q E e hQ=>Yr e λ p q hp e=>by
 subst hp
 refine r.two λ u x hv ru rx=>?_
 subst hv
 refine Aa4 (k:=λ i=>Qm i σ λ l=>Ff q σ λ l'=>Ac6 l l' λ l=>Cb i (.list l) σ (k .none)) e ru λ i a e ea=>Nv (k:=λ l=>Ff q σ λ l'=>Ac6 l l' λ l=>Cb i (.list l) σ (k .none)) e st ea λ l us n e ho rl=>?_
 refine Aa3 (k:=λ l'=>Ac6 l l' λ l=>Cb i (.list l) σ (k .none)) e st rx λ l' c ws e tc rl'=>Ake e λ z1 z2 e=>M0 e λ t' hp e=>?_
 obtain ⟨⟨cc,dd,da,sl⟩,ho',hc,m,hd⟩:=tc
 cases hc;cases hd
 have hs1:us.toArray.size≤Bv:=by rw [List.size_toArray,rl.length];exact z1
 have hs2:ws.toArray.size≤Bv:=by rw [List.size_toArray,rl'.length];exact z2
 refine call_meets PySem.F.slot_list_extend ⟨_,ho,rfl⟩ PySem.F.entry_list_extend (PySem.F.args_list_extend_2 _ _) (Aow a us.toArray n c ws.toArray m dd sl ?_ (Nat.le_trans hs1 B0) (Nat.le_succ_of_le (sz2 hs1 hs2))) ⟨ho,ho',?_⟩
 ·unfold Bv at hs1 hs2
  simp [Builtin.List.listTooLong,sizeLine]
  intro _
  simp at hs1 hs2
  omega
 ·exact hQ .none _ J .none _ e (Nx.set st ea s.toks (Heap.SameBut.update s.heap a (Obj.mapSeq λ x=>x++ws.toArray)) (Heap.get?_update_self _ ho rfl) hp ⟨rfl,rfl,rfl,us++ws,_,congrArg (λ x=>Data.seq x _) (List.append_toArray _ _),rl.append rl'⟩) Zc
theorem Aud {x:Str} {pos:Pos} {i:Int} {t:Tok} (hx:nsIn B.K mainGlobals x=some (some (.int i t))) (hk:ks.lookup x=some .globalImplicit) (hd:(x==("__debug__":Str))=false):SE B d ks xs (.Name x pos) (eC (.int i)):=λ A s env ρ J σ hR hE hS k Q E e hQ=>
 Name_function_global hE.kind (Cq hE hk) (loadGlobal_global (by rw [hE.globals];exact hS.T.g) (mg_of B.X B.T.g hx) (hQ _ s J _ σ e (.refl hS (Ab _ _)) (C2 _ _))) hd
def Ww (kn:List Nat):List Value->Bool:=@List.rec _ (λ Z=>List Value->Bool) List.isEmpty (λ c Z ih vs=>match vs with
 | .str x _::vs=>(x==(⟨(Ba c).toArray⟩:Str))&&ih vs
 | _=>false) kn
theorem Vh {J:Aj} {h:Heap}:∀ {kn:List Nat} {vs:List Value},Ww kn vs=true->RepL J h (stL kn) vs
 | [],[],_=>Cx
 | [],_::_,e=>ff e
 | c::kn,[],e=>ff e
 | c::kn,v::vs,e=>by
  cases v with
  | str x t=>exact Bd (Ep _ (eq_of_beq (b2 e).1)) (Vh (b2 e).2)
  | _=>exact ff e
theorem Aue {x:Str} {pos:Pos} {a:Addr} {osl:Array (Option Value)} {vs:List Value} {n:Nat} {kn:List Nat} (hx:nsIn B.K mainGlobals x=some (some (.ref a))) (ha:B.K.lookup a=some ⟨.type "tuple",none,.seq vs.toArray n,osl⟩) (hv:Ww kn vs=true)
  (hk:ks.lookup x=some .globalImplicit) (hd:(x==("__debug__":Str))=false):SE B d ks xs (.Name x pos) (eC (.tup (stL kn))):=λ A s env ρ J σ hR hE hS k Q E e hQ=>
 Name_function_global hE.kind (Cq hE hk) (loadGlobal_global (by rw [hE.globals];exact hS.T.g) (mg_of B.X B.T.g hx) (hQ _ s J _ σ e (.refl hS (Ab _ _)) (Ek (λ q=>nomatch (B.X _ _ ha).symm.trans (hS.fresh a q)) ⟨_,hS.X _ _ ha,rfl⟩ ⟨_,hS.X _ _ ha,rfl,n,rfl⟩ (Vh hv)))) hd
end
end
section
structure Ask (n:Nat) (rk:Nat->Nat) (s:Shared) (cmp:Nat->Nat->(Bool->Shared->Prop)->Shared->Prop):Prop where
 ask:∀ i j,i<n->j<n->i≠j->∀ C:Bool->Shared->Prop,C (decide (rk i<rk j)) s->cmp i j C s
 inj:∀ i j,i<n->j<n->rk i=rk j->i=j
structure PP (n:Nat) (p:Array Nat):Prop where
 size:p.size=n
 lt:∀ i,i<n->p.getD i 0<n
 inj:∀ i j,i<n->j<n->p.getD i 0=p.getD j 0->i=j
theorem Aku {p:Array Nat} {i:Nat}:p.getD i 0=(p[i]?).getD 0:=by
 by_cases h:i<p.size<;>simp [Array.getD,h]
section
variable {n:Nat} {rk:Nat->Nat} {s:Shared} {cmp:Nat->Nat->(Bool->Shared->Prop)->Shared->Prop}
def qk (rk:Nat->Nat) (p:Array Nat) (i:Nat):Nat:=rk (p.getD i 0)
def Up (rk:Nat->Nat) (p:Array Nat) (m:Nat):Prop:=∀ i j,i<j->j<m->qk rk p i<qk rk p j
def ent (F:List (Nat×Nat)):Nat->Nat->Nat->Bool
 | 0,_,_=>false
 | f+1,i,j=>F.any λ x=>Nat.beq x.1 i&&(Nat.beq x.2 j||ent F f x.2 j)
theorem Aot {F:List (Nat×Nat)} (hF:∀ x∈F,rk x.1<rk x.2):∀ (f i j:Nat),ent F f i j=true->rk i<rk j
 | 0,_,_,h=>nomatch h
 | f+1,i,j,h=>by
  obtain ⟨x,hx,h⟩:=List.any_eq_true.mp h
  obtain ⟨h1,h2⟩:=(Bool.and_eq_true _ _).mp h
  rw [<- Nat.eq_of_beq_eq_true h1]
  rcases (Bool.or_eq_true _ _).mp h2 with h2|h2
  ·rw [<- Nat.eq_of_beq_eq_true h2];exact hF x hx
  ·exact Nat.lt_trans (hF x hx) (Aot hF f _ _ h2)
def upB (n:Nat) (F:List (Nat×Nat)) (p:Array Nat):Bool:=Nat.beq p.size n&&((List.range n).all λ i=>Nat.blt (p.getD i 0) n&&(List.range i).all λ j=>ent F n (p.getD j 0) (p.getD i 0))
def Au5 (n:Nat):KasT (Array Nat)->List (Nat×Nat)->Bool
 | .ret p,F=>upB n F p
 | .ask i j k,F=>Nat.blt i n&&(Nat.blt j n&&(!(Nat.beq i j)&&(Au5 n (k true) ((i,j)::F)&&Au5 n (k false) ((j,i)::F))))
theorem Ad7 (a:Ask n rk s cmp) {Q:Array Nat->Shared->Prop} (h:∀ p,PP n p->Up rk p n->Q p s):∀ (t:KasT (Array Nat)) (F:List (Nat×Nat)),Au5 n t F=true->(∀ x∈F,rk x.1<rk x.2)->t.kasWp cmp Q s
 | .ret p,F,c,hF=>by
  obtain ⟨c1,c2⟩:=(Bool.and_eq_true _ _).mp c
  have hi:∀ i,i<n->(Nat.blt (p.getD i 0) n&&(List.range i).all λ j=>ent F n (p.getD j 0) (p.getD i 0))=true:=λ i hi=>List.all_eq_true.mp c2 i (List.mem_range.mpr hi)
  have up:Up rk p n:=λ i j hij hj=>Aot hF n _ _ (List.all_eq_true.mp ((Bool.and_eq_true _ _).mp (hi j hj)).2 i (List.mem_range.mpr hij))
  refine h p ⟨zzh c1,λ i q=>zzi ((Bool.and_eq_true _ _).mp (hi i q)).1,λ i j qi qj e=>?_⟩ up
  rcases Nat.lt_trichotomy i j with q|q|q
  ·exact absurd (up i j q qj) (by unfold qk;rw [e];exact Nat.lt_irrefl _)
  ·exact q
  ·exact absurd (up j i q qi) (by unfold qk;rw [e];exact Nat.lt_irrefl _)
 | .ask i j k,F,c,hF=>by
  obtain ⟨c1,c⟩:=(Bool.and_eq_true _ _).mp c
  obtain ⟨c2,c⟩:=(Bool.and_eq_true _ _).mp c
  obtain ⟨c3,c⟩:=(Bool.and_eq_true _ _).mp c
  obtain ⟨c4,c5⟩:=(Bool.and_eq_true _ _).mp c
  have hi:i<n:=zzi c1
  have hj:j<n:=zzi c2
  have hne:i≠j:=λ e=>by rw [e,Nat.beq_refl] at c3;cases c3
  refine a.ask i j hi hj hne _ ?_
  by_cases q:rk i<rk j
  ·rw [decide_eq_true q]
   exact Ad7 a h (k true) _ c4 λ x hx=>(List.mem_cons.mp hx).elim (λ e=>e▸q) (hF x)
  ·rw [decide_eq_false q]
   exact Ad7 a h (k false) _ c5 λ x hx=>(List.mem_cons.mp hx).elim (λ e=>e▸Nat.lt_of_le_of_ne (Nat.not_lt.mp q) λ e=>hne (a.inj j i hj hi e).symm) (hF x)
theorem Aut (a:Ask n rk s cmp) (h4:n≤4) {Q:Array Nat->Shared->Prop} (h:∀ p,PP n p->Up rk p n->Q p s):(kas_sort n).kasWp cmp Q s:=
 Ad7 a h _ [] (by
  have:∀ n≤4,Au5 n (kas_sort n) []=true:=by decide +kernel
  exact this n h4) λ x hx=>nomatch hx
theorem PP.rank {p:Array Nat} (pp:PP n p) (hu:Up rk p n) (hr:∀ i,i<n->rk i<n):∀ i,i<n->qk rk p i=i:=by
 have ge:∀ i,i<n->i≤qk rk p i:=by
  intro i
  induction i with
  | zero=>intro _;omega
  | succ i ih=>intro hi;have:=ih (by omega);have:=hu i (i+1) (by omega) hi;omega
 have le:∀ d i,i+d+1=n->qk rk p i≤i:=by
  intro d
  induction d with
  | zero=>intro i hi;have:=hr _ (pp.lt i (by omega));unfold qk;omega
  | succ d ih=>intro i hi;have:=ih (i+1) (by omega);have:=hu i (i+1) (by omega) (by omega);omega
 intro i hi
 have:=ge i hi
 have:=le (n - 1 - i) i (by omega)
 omega
end
end
section
def Axg (A:Around) (s:Shared) (y x:Value) (b:Bool):Prop:=
 ∀ (prog:Program) (w:World) (E:Value->Shared->Prop) (Q:Value->Shared->Prop),Q (.bool b) s->wpAny (model prog w) A (richCompare .Lt y x) Q E s
def Aj6 (A:Around) (s:Shared) (fin:Bool):List (Value×Value)->Bool->Prop
 | [],b=>b=fin
 | (p,q)::r,b=>(SeqAt.EqAt A s p q true/\Aj6 A s fin r b)\/(SeqAt.EqAt A s p q false/\Axg A s p q b)
open AutoSeq1 (wpAny_loadPart') in
open MeetsSeq MeetsSeq2 MeetsSeq3 SeqRoads2 in
theorem Ajq (l b:Addr) (items items2:Array Value) (n n2:Nat) (dd dd2:Option Addr) (sl sl2:Array (Option Value)) (c:Bool):
  Meets (Builtin.«tuple.__lt__» ⟨[.ref l,.ref b],[]⟩)
   (λ A R s=>s.heap.get? l=some {cls:=.type "tuple",dict:=dd,data:=.seq items n,slots:=sl}/\s.heap.get? b=some {cls:=.type "tuple",dict:=dd2,data:=.seq items2 n2,slots:=sl2} /\
    Aj6 A.in1 s (decide (items.size<items2.size)) (items.toList.zip items2.toList) c /\
    R (.ok (.ret (.bool c))) s):=
 .of_wp λ prog w A R s h=>by
  obtain ⟨hp,g,d,tk,os⟩:=s;obtain ⟨hl,hb,he,h⟩:=h
  have f2:=AutoSeq1.sub_tuple_tuple
  wp_walk using wpAny_loadPart' hl,wpAny_loadPart' hb,wpAny_forIn_list _ (λ rest b s'=>b.1=none/\s'=⟨hp,g,d,tk,os⟩/\Aj6 A.in1 ⟨hp,g,d,tk,os⟩ (decide (items.size<items2.size)) rest c) _
  case turn=>
   rintro ⟨y,x⟩ rest b s' ⟨hb',rfl,hx⟩
   rcases hx with ⟨e1,hx⟩|⟨e1,hx⟩
   ·refine zza (e1 prog w _ _ ?_)
    wp_walk
    exact ⟨rfl,rfl,hx⟩
   ·refine zza (e1 prog w _ _ ?_)
    generalize hRC:richCompare=RC
    wp_walk
    subst hRC
    refine hx prog w _ _ ?_
    wp_walk
    exact ⟨_,rfl,h⟩
  case fin=>
   rintro ⟨b1,b2⟩ s' ⟨hb',rfl,hx⟩
   simp only at hb'
   subst hb'
   have hx:c=decide (items.size<items2.size):=hx
   subst hx
   wp_walk
   exact ⟨_,rfl,h⟩
  case h=>
   exact ⟨rfl,rfl,he⟩
def Ag7 (a:List Nat):List Nat->Bool:=@List.rec _ (λ Z=>List Nat->Bool) (lC false λ Z Z=>true) (λ x Z ih=>lC false λ y r=>bC (Nat.blt x y) (ih r) (Nat.beq x y)) a
theorem Y6:∀ l l':List Nat,Ag7 l l'=decide (l<l')
 | [],[]=>(decide_eq_false (List.lt_irrefl _)).symm
 | [],_::_=>(decide_eq_true (List.nil_lt_cons _ _)).symm
 | _::_,[]=>(decide_eq_false (List.not_lt_nil _)).symm
 | a::x,b::y=>by
  show bC (Nat.blt a b) (Ag7 x y) (Nat.beq a b)=_
  cases h:Nat.beq a b with
  | true=>
   cases zzh h
   rw [show bC (Nat.blt a a) (Ag7 x y) true=Ag7 x y from rfl,Y6 x y]
   exact decide_eq_decide.mpr (List.cons_lt_cons_iff.trans ⟨λ q=>q.elim (λ q=>absurd q (Nat.lt_irrefl _)) (·.2),λ q=>.inr ⟨rfl,q⟩⟩).symm
  | false=>
   have:=Nat.ne_of_beq_eq_false h
   exact Bool.eq_iff_iff.mpr ⟨λ q=>decide_eq_true (List.cons_lt_cons_iff.mpr (.inl (zzi q))),λ q=>(List.cons_lt_cons_iff.mp (of_decide_eq_true q)).elim (λ q=>Nat.ble_eq_true_of_le q) λ q=>absurd q.1 this⟩
def Air (e l:PV->PV->(Bool->Bool)->Bool) (a:List PV):List PV->(Bool->Bool)->Bool:=@List.rec _ (λ Z=>List PV->(Bool->Bool)->Bool) (λ r k=>lC (k false) (λ Z Z=>k true) r) (λ p Z ih r k=>lC (k false) (λ q r=>e p q λ b=>bC (l p q k) (ih r k) b) r) a
def ltK (n:Nat):PV->PV->(Bool->Bool)->Bool:=@Nat.rec (λ Z=>PV->PV->(Bool->Bool)->Bool) (λ Z Z Z=>false) (λ m ih p q k=>vC false F1 (λ a=>Eu (λ b=>ltI a b k) q) (λ a=>El (λ b=>k (Ag7 (Ba a) (Ba b))) q) (λ a=>Lo (λ b=>Air (eqK m) ih a b k) q) F1 F2 F1 F1 p) n
section
variable {s:Shared} {J:Aj}
theorem A13 {A:Around} {n:Nat} (hl:∀ p q u v k,Ae J s.heap p u->Ae J s.heap q v->ltK n p q k=true->∃ b,k b=true/\Axg A s u v b) (hu:A.units+n<cLine):∀ (l l':List PV) (us vs:List Value) (k:Bool->Bool),RepL J s.heap l us->RepL J s.heap l' vs->Air (eqK n) (ltK n) l l' k=true ->
  ∃ b,k b=true/\Aj6 A s (decide (us.length<vs.length)) (us.zip vs) b:=by
 intro l
 induction l with
 | nil=>
  intro l' us vs k r r' e
  refine C8 r ?_
  cases l' with
  | nil=>refine C8 r' ?_;exact ⟨false,e,rfl⟩
  | cons q l'=>refine A8 r' λ v vs Z Z=>?_;exact ⟨true,e,rfl⟩
 | cons p l ih=>
  intro l' us vs k r r' e
  refine A8 r λ u us ru r=>?_
  cases l' with
  | nil=>refine C8 r' ?_;exact ⟨false,e,rfl⟩
  | cons q l'=>
   refine A8 r' λ v vs rv r'=>?_
   have hd:decide ((u::us).length<(v::vs).length)=decide (us.length<vs.length):=decide_eq_decide.mpr Nat.succ_lt_succ_iff
   rw [hd]
   obtain ⟨b,e,t⟩:=Amm n (A:=A) p q u v (λ b=>bC (ltK n p q k) (Air (eqK n) (ltK n) l l' k) b) hu e ru rv
   cases b with
   | true=>exact (ih l' us vs k r r' e).elim λ b h=>⟨b,h.1,.inl ⟨t.e,h.2⟩⟩
   | false=>exact (hl p q u v k ru rv e).elim λ b h=>⟨b,h.1,.inr ⟨t.e,h.2⟩⟩
theorem A5i:∀ (n:Nat) {A:Around} (p q:PV) (u v:Value) (k:Bool->Bool),A.units+n<cLine->Ae J s.heap p u->Ae J s.heap q v->ltK n p q k=true->∃ b,k b=true/\Axg A s u v b:=by
 intro n
 induction n with
 | zero=>exact λ p q u v k Z Z Z e=>ff e
 | succ n ih=>
  intro A p q u v k hu r r' e
  cases p with
  | int a=>
   obtain ⟨b,rfl,e⟩:=S6 e
   have e:=(Aaq k a b).symm.trans e
   exact Eh r λ t=>Eh r' λ t'=>⟨_,e,λ prog w E Q h=>PyProof.Rows.lt_int h⟩
  | str a=>
   obtain ⟨b,rfl,e⟩:=Pz e
   have e:k (decide (Ba a<Ba b))=true:=Y6 (Ba a) (Ba b)▸e
   exact Ei r λ t=>Ei r' λ t'=>⟨_,e,λ prog w E Q h=>PyProof.Rows.lt_str h⟩
  | tup a=>
   obtain ⟨b,rfl,e⟩:=Acf e
   refine Cw r λ x us Z Z t1 r1=>Cw r' λ y vs Z Z t2 r2=>?_
   have hu':A.in1.units+n<cLine:=by rw [show A.in1.units=A.units+1 from rfl,Nat.add_assoc,Nat.add_comm 1 n];exact hu
   obtain ⟨c,e,hx⟩:=A13 (A:=A.in1) (λ p q u v k r r' e=>ih p q u v k hu' r r' e) hu' a b us vs k r1 r2 e
   obtain ⟨⟨cls,dd,data,sl⟩,ho,hc,k1,hd⟩:=id t1
   obtain ⟨⟨cls2,dd2,data2,sl2⟩,ho2,hc2,k2,hd2⟩:=id t2
   simp only at hc hd hc2 hd2
   subst hc hd hc2 hd2
   exact ⟨c,e,λ prog w E Q h=>richCompare_meets_room (op:=.Lt) ⟨_,ho,rfl⟩ ⟨_,ho2,rfl⟩ F.slot_tuple_lt F.entry_tuple_lt (F.args_tuple_lt_2 _ _) (Ajq x y us.toArray vs.toArray k1 k2 dd dd2 sl sl2 c)
    ⟨ho,ho2,by simpa using hx,show Value.bool c≠Value.notImplemented/\Q (.bool c) s from ⟨(λ x=>nomatch x),h⟩⟩ (Nat.lt_of_le_of_lt (Nat.le_add_right A.units (n+1)) hu)⟩
  | _=>exact ff e
end
end
section
abbrev Qa (l:List Nat):Prop:=l.Pairwise (·<·)
def Bc (l:List Nat) (j:Nat):Nat:=l.countP λ x=>decide (x<j)
theorem Dt:∀ {l:List Nat} (h:Qa l) (j k:Nat) (hk:k<l.length),l[k]<j↔k<Bc l j
 | [],_,j,k,hk=>by cases hk
 | a::l,h,j,k,hk=>by
  have h1:=List.pairwise_cons.mp h
  unfold Bc
  rw [List.countP_cons]
  have ih:=Dt h1.2 j
  unfold Bc at ih
  by_cases ha:a<j
  ·rw [if_pos (decide_eq_true ha)]
   cases k with
   | zero=>exact ⟨λ Z=>by omega,λ Z=>ha⟩
   | succ k=>
    have hk':k<l.length:=by simpa using hk
    have:=ih k hk'
    simp only [List.getElem_cons_succ]
    omega
  ·rw [if_neg (by simpa using ha)]
   have z:l.countP (λ x=>decide (x<j))=0:=by
    rw [List.countP_eq_zero]
    intro x hx
    have:=h1.1 x hx
    simp;omega
   rw [z]
   constructor
   ·intro q
    exfalso
    cases k with
    | zero=>exact ha q
    | succ k=>
     have hk':k<l.length:=by simpa using hk
     have:=h1.1 _ (List.getElem_mem hk')
     simp only [List.getElem_cons_succ] at q
     omega
   ·intro q;omega
theorem Adc (l:List Nat) (j:Nat):Bc l j≤l.length:=List.countP_le_length
theorem X3 {xs:Array Nat} (h:Qa xs.toList) (j:Nat):∀ (f lo hi:Nat),lo≤Bc xs.toList j->Bc xs.toList j≤hi->hi≤xs.size->hi - lo≤f->SetTable.below.go xs j f lo hi=Bc xs.toList j
 | 0,lo,hi,h1,h2,h3,h4=>by unfold SetTable.below.go;omega
 | f+1,lo,hi,h1,h2,h3,h4=>by
  unfold SetTable.below.go
  by_cases e:lo<hi
  ·rw [if_pos e]
   dsimp only
   have hm:(lo+hi) / 2<xs.size:=by omega
   have hm':(lo+hi) / 2<xs.toList.length:=by simpa using hm
   have eg:xs.getD ((lo+hi) / 2) j=xs.toList[(lo+hi) / 2]:=by simp [Array.getD,hm]
   have:=Dt h j ((lo+hi) / 2) hm'
   rw [eg]
   by_cases c:xs.toList[(lo+hi) / 2]<j
   ·rw [if_pos c]
    exact X3 h j f _ _ (by omega) h2 h3 (by omega)
   ·rw [if_neg c]
    exact X3 h j f _ _ h1 (by omega) (by omega) (by omega)
  ·rw [if_neg e];omega
theorem Rv {xs:Array Nat} (h:Qa xs.toList) (j:Nat):SetTable.below xs j=Bc xs.toList j:=
 X3 h j xs.size 0 xs.size (Nat.zero_le _) (by have:=Adc xs.toList j;simpa using this) (Nat.le_refl _) (by omega)
theorem An8 {l:List Nat} (h:Qa l) (j:Nat):l[Bc l j]?=some j↔j∈l:=by
 constructor
 ·exact λ e=>List.mem_of_getElem? e
 ·intro hj
  obtain ⟨k,hk,e⟩:=List.mem_iff_getElem.mp hj
  have h1:=Dt h j k hk
  have h2:=Dt h (j+1) k hk
  have h3:Bc l j=k:=by
   rcases Nat.lt_trichotomy (Bc l j) k with q|q|q
   ·have:=Dt h j (Bc l j) (by omega)
    have hlt:l[Bc l j]<l[k]:=List.pairwise_iff_getElem.mp h _ _ _ _ q
    omega
   ·exact q
   ·have:=h1.mpr q;omega
  rw [h3,List.getElem?_eq_getElem hk,e]
structure Pd (t:SetTable) (n:Nat):Prop where
 rise:Qa t.place.toList
 size:t.place.size=n
 fit:n≤t.mask
 dum:t.dummies=#[]
theorem Pd.slot {t:SetTable} {n:Nat} (h:Pd t n) (j:Nat):t.slot j=if j∈t.place.toList then .live (Bc t.place.toList j) else .empty:=by
 unfold SetTable.slot
 dsimp only
 rw [Rv h.rise]
 have hd:SetTable.has t.dummies j=false:=by rw [h.dum];rfl
 have e:t.place[Bc t.place.toList j]?=t.place.toList[Bc t.place.toList j]?:=by rw [Array.getElem?_toList]
 rw [e,hd]
 have:=An8 h.rise j
 by_cases hj:j∈t.place.toList
 ·rw [if_pos hj,this.mpr hj];simp
 ·rw [if_neg hj]
  have hne:¬ (t.place.toList[Bc t.place.toList j]?==some j)=true:=by
   intro q
   exact hj (this.mp (by simpa using q))
  rw [if_neg hne];rfl
theorem Pd.fits {t:SetTable} {n:Nat} (h:Pd t n):t.fits n=true:=by
 unfold SetTable.fits SetTable.fill
 rw [h.dum,h.size]
 have:=h.fit
 simp;omega
theorem Pd.put {t:SetTable} {n j:Nat} (h:Pd t n) (hj:j∉t.place.toList):(t.put j).2=Bc t.place.toList j/\(t.put j).1={t with place:=SetTable.insertAt t.place (Bc t.place.toList j) j}:=by
 unfold SetTable.put
 dsimp only
 rw [Rv h.rise]
 have hd:SetTable.has t.dummies j=false:=by rw [h.dum];rfl
 rw [hd]
 exact ⟨rfl,rfl⟩
theorem Agz {l:List Nat} (h:Qa l) {j:Nat} (hj:j∉l):Qa (l.take (Bc l j)++j::l.drop (Bc l j)):=by
 refine List.pairwise_append.mpr ⟨h.sublist (List.take_sublist _ _),List.pairwise_cons.mpr ⟨λ x hx=>?_,h.sublist (List.drop_sublist _ _)⟩,λ a ha b hb=>?_⟩
 ·obtain ⟨k,hk,rfl⟩:=List.mem_iff_getElem.mp hx
  rw [List.getElem_drop]
  have hk':Bc l j+k<l.length:=by rw [List.length_drop] at hk;omega
  have:=Dt h j _ hk'
  have hne:l[Bc l j+k]≠j:=λ e=>hj (e▸List.getElem_mem hk')
  omega
 ·obtain ⟨k,hk,rfl⟩:=List.mem_iff_getElem.mp ha
  rw [List.getElem_take]
  have hk':k<Bc l j/\k<l.length:=by rw [List.length_take] at hk;omega
  have:=(Dt h j k hk'.2).mpr hk'.1
  rcases List.mem_cons.mp hb with rfl|hb
  ·exact this
  ·obtain ⟨m,hm,rfl⟩:=List.mem_iff_getElem.mp hb
   rw [List.getElem_drop]
   rw [List.length_drop] at hm
   exact List.pairwise_iff_getElem.mp h _ _ _ _ (by omega)
theorem Pd.insert {t:SetTable} {n j:Nat} (h:Pd t n) (hj:j∉t.place.toList) (hn:n+1≤t.mask):Pd {t with place:=SetTable.insertAt t.place (Bc t.place.toList j) j} (n+1) where
 rise:=by
  show Qa (SetTable.insertAt t.place (Bc t.place.toList j) j).toList
  rw [SetTable.toList_insertAt]
  exact Agz h.rise hj
 size:=by
  show (SetTable.insertAt t.place (Bc t.place.toList j) j).size=n+1
  rw [<- Array.length_toList,SetTable.toList_insertAt,List.length_append,List.length_cons,List.length_take,List.length_drop]
  have:=Adc t.place.toList j
  have:=h.size
  simp at *;omega
 fit:=hn
 dum:=h.dum
end
section
def Cd (h:Int):Nat->Nat×Nat
 | 0=>(SetTable.bits h % 8,SetTable.bits h)
 | k+1=>(((Cd h k).1*5+1+(Cd h k).2 / 32) % 8,(Cd h k).2 / 32)
def lcg (i:Nat):Nat->Nat
 | 0=>i
 | k+1=>(lcg i k*5+1) % 8
theorem Ay3 (h:Int):∀ k,(Cd h k).1<8
 | 0=>Nat.mod_lt _ (by omega)
 | k+1=>Nat.mod_lt _ (by omega)
theorem Ar3 (h:Int):SetTable.bits h<2 ^ 64:=by
 unfold SetTable.bits
 have h1:(0:Int)≤h % (2 ^ 64:Int):=Int.emod_nonneg _ (by decide)
 have h2:h % (2 ^ 64:Int)<2 ^ 64:=Int.emod_lt_of_pos _ (by decide)
 omega
theorem Alp (h:Int):∀ k,(Cd h k).2=SetTable.bits h / 32 ^ k
 | 0=>by show SetTable.bits h=_;simp
 | k+1=>by
  show (Cd h k).2 / 32=_
  rw [Alp h k,Nat.div_div_eq_div_mul,Nat.pow_succ]
theorem Agu (h:Int):∀ m,Cd h (13+m)=(lcg (Cd h 13).1 m,0)
 | 0=>by
  have:(Cd h 13).2=0:=by
   rw [Alp]
   exact Nat.div_eq_of_lt (Nat.lt_of_lt_of_le (Ar3 h) (by decide))
  show Cd h 13=((Cd h 13).1,0)
  rw [<- this]
 | m+1=>by
  have e:Cd h (13+(m+1))=(((Cd h (13+m)).1*5+1+(Cd h (13+m)).2 / 32) % 8,(Cd h (13+m)).2 / 32):=rfl
  rw [e,Agu h m]
  show ((lcg (Cd h 13).1 m*5+1+0 / 32) % 8,0 / 32)=((lcg (Cd h 13).1 m*5+1) % 8,0)
  simp
theorem As1:∀ i,i<8->∀ j,j<8->∃ m,m<8/\lcg i m=j:=by decide +kernel
theorem Ato (h:Int) {j:Nat} (hj:j<8):∃ k,k≤20/\(Cd h k).1=j:=by
 obtain ⟨m,hm,e⟩:=As1 _ (Ay3 h 13) j hj
 exact ⟨13+m,by omega,by rw [Agu,e]⟩
theorem Afs (h:Int) {l:List Nat} (hl:l.length<8):∃ k,k≤20/\(Cd h k).1∉l/\∀ k'<k,(Cd h k').1∈l:=by
 have:∃ j,j<8/\j∉l:=by
  rcases Classical.em (∃ j,j<8/\j∉l) with h|h
  ·exact h
  ·exfalso
   have sub:∀ j∈List.range 8,j∈l:=λ j hj=>by
    by_cases q:j∈l
    ·exact q
    ·exact absurd ⟨j,List.mem_range.mp hj,q⟩ h
   have:=List.Nodup.length_le_of_subset (List.nodup_range (n:=8)) sub
   simp at this
   omega
 obtain ⟨j,hj,hjl⟩:=this
 obtain ⟨k,hk,e⟩:=Ato h hj
 have ex:∃ k,k≤20/\(Cd h k).1∉l:=⟨k,hk,by rw [e];exact hjl⟩
 have key:∀ n,(∃ k,k<n/\(Cd h k).1∉l)->∃ k,k<n/\(Cd h k).1∉l/\∀ k'<k,(Cd h k').1∈l:=by
  intro n
  induction n with
  | zero=>rintro ⟨k,hk,_⟩;omega
  | succ n ih=>
   rintro ⟨k,hk,hkl⟩
   by_cases q:∃ k,k<n/\(Cd h k).1∉l
   ·obtain ⟨k1,a,b,c⟩:=ih q;exact ⟨k1,by omega,b,c⟩
   ·refine ⟨k,hk,hkl,λ k' hk'=>?_⟩
    by_cases q':(Cd h k').1∈l
    ·exact q'
    ·exact absurd ⟨k',by omega,q'⟩ q
 obtain ⟨k1,a,b,c⟩:=key 21 (by obtain ⟨k,a,b⟩:=ex;exact ⟨k,by omega,b⟩)
 exact ⟨k1,by omega,b,c⟩
def prb (h:Int) (k:Nat):SetTable.Probe:={j:=(Cd h k).1,more:=0,i:=(Cd h k).1,perturb:=(Cd h k).2,dummy:=none}
theorem Anb {t:SetTable} (hm:t.mask=7) (h:Int):t.probeStart h=prb h 0:=by
 unfold SetTable.probeStart SetTable.runEnd
 rw [hm]
 have:¬ (SetTable.bits h % (7+1)+9≤7):=by omega
 simp only [this,if_false,Nat.sub_self]
 rfl
theorem Agt {t:SetTable} (hm:t.mask=7) (h:Int) (k:Nat):t.advance (prb h k)=prb h (k+1):=by
 unfold SetTable.advance
 rw [if_neg (by show ¬ (0>0);omega)]
 unfold SetTable.leap SetTable.runEnd
 rw [hm]
 dsimp only
 have:¬ (((prb h k).i*5+1+(prb h k).perturb / 32) % (7+1)+9≤7):=by omega
 simp only [this,if_false,Nat.sub_self]
 rfl
section
variable {t:SetTable} {n:Nat} {hashAt:Nat->Int} {h:Int} {K0:Nat}
theorem Akv (tb:Pd t n) (hm:t.mask=7) (h0:(Cd h K0).1∉t.place.toList) (hb:∀ k'<K0,(Cd h k').1∈t.place.toList):∀ (d k f:Nat),K0 - k=d->k≤K0->d<f ->
  (∃ k1,k≤k1/\k1<K0/\(hashAt (Bc t.place.toList (Cd h k1).1)==h)=true/\SetTable.probe.go t hashAt h f (prb h k)=some (.candidate (Cd h k1).1 (Bc t.place.toList (Cd h k1).1) (prb h (k1+1)))/\∀ k',k≤k'->k'<k1->(hashAt (Bc t.place.toList (Cd h k').1)==h)=false) \/
  (SetTable.probe.go t hashAt h f (prb h k)=some (.empty (Cd h K0).1 none)/\∀ k',k≤k'->k'<K0->(hashAt (Bc t.place.toList (Cd h k').1)==h)=false)
 | d,k,0,_,_,hf=>by omega
 | d,k,f+1,hd,hk,hf=>by
  unfold SetTable.probe.go
  rw [tb.slot]
  show (∃ k1,_)\/_
  by_cases e:k=K0
  ·subst e
   refine .inr ⟨?_,λ k' a b=>by omega⟩
   have hj:(prb h k).j=(Cd h k).1:=rfl
   rw [hj,if_neg h0]
   rfl
  ·have hin:=hb k (by omega)
   have hj:(prb h k).j=(Cd h k).1:=rfl
   rw [hj,if_pos hin]
   dsimp only
   cases hq:(hashAt (Bc t.place.toList (Cd h k).1)==h) with
   | true=>
    refine .inl ⟨k,Nat.le_refl _,by omega,hq,?_,λ k' a b=>by omega⟩
    rw [if_pos rfl,Agt hm]
   | false=>
    rw [if_neg (by decide),Agt hm]
    rcases Akv tb hm h0 hb (d - 1) (k+1) f (by omega) (by omega) (by omega) with ⟨k1,a,b,c,g,z⟩|⟨g,z⟩
    ·refine .inl ⟨k1,by omega,b,c,g,λ k' x y=>?_⟩
     by_cases q:k'=k
     ·rw [q];exact hq
     ·exact z k' (by omega) y
    ·refine .inr ⟨g,λ k' x y=>?_⟩
     by_cases q:k'=k
     ·rw [q];exact hq
     ·exact z k' (by omega) y
end
end
section
theorem Yd:entryFor table "set.__iter__"=some Builtin.«frozenset.__iter__»:=
 entryFor_alias (id':="frozenset.__iter__") (by kernel_rfl) rfl (by decide +kernel) (by kernel_rfl)
theorem B3:Slot "set_iterator" "__next__" "set_iterator.__next__":=
 .of (owner:="set_iterator") (n:="__next__") (by rw [typeLookup_type,builtinLookup_eq_fast];kernel_rfl) (by decide +kernel) (by decide +kernel) (by decide +kernel)
  (by first|exact .inl (by decide +kernel)|exact .inr (by decide +kernel)) (by rw [isSubtype_type];kernel_rfl)
theorem Hq:entryFor table "set_iterator.__next__"=some Builtin.«set_iterator.__next__»:=entryFor_of_tree (by kernel_rfl)
theorem Agm:Manifest.owners.lookup (String.ofList ['r','o','t','a','r','e','t','i','_','t','e','s'].reverse)=some Manifest.sig_set_iterator:=by kernel_rfl
theorem I7 (a:Value):argsOk "set_iterator.__next__" ⟨[a],[]⟩:=by
 unfold argsOk;rw [signature?_of (id:="set_iterator.__next__") (n:=['_','_','t','x','e','n','_','_']) (o:=['r','o','t','a','r','e','t','i','_','t','e','s']) (by kernel_rfl) Agm];kernel_rfl
theorem Qi {α:Type}:∀ {l:List α} {i:Nat} (h:i<l.length),(l[i]::l.eraseIdx i).Perm l
 | a::l,0,_=>List.Perm.refl _
 | a::l,i+1,h=>by
  have h':i<l.length:=by simpa using h
  show (l[i]::a::l.eraseIdx i).Perm (a::l)
  exact (List.Perm.swap _ _ _).trans ((Qi h').cons a)
section
variable {M:Model} {A:Around} {E:Value->Shared->Prop} {s:Shared}
theorem Amg {src:Source} {n:Nat} {Q:Nat->Shared->Prop} (hn:n≠0) (h:∀ i d,i<n->Q i {s with drawn:=d}):wpAny M A (choose src n) Q E s:=λ Γ p hΓ=>⟨hn,h _ _ (Nat.mod_lt _ (Nat.pos_of_ne_zero hn))⟩
theorem R0 {α:Type}:∀ (n:Nat) (xs:List α) (s:Shared) (Q:List α->Shared->Prop),n=xs.length->(∀ ys d,ys.Perm xs->Q ys {s with drawn:=d})->wpAny M A (drawOrder n xs) Q E s
 | 0,xs,s,Q,hn,h=>by
  unfold drawOrder
  have:xs=[]:=List.length_eq_zero_iff.mp hn.symm
  subst this
  exact zzb (h [] s.drawn (List.Perm.refl _))
 | n+1,[],s,Q,hn,h=>by simp at hn
 | n+1,x::xs,s,Q,hn,h=>by
  unfold drawOrder
  refine wpAny_bind (Amg (by simp) λ i d hi=>?_)
  rw [List.getElem?_eq_getElem hi]
  dsimp only
  refine wpAny_bind (R0 n ((x::xs).eraseIdx i) _ _ (by rw [List.length_eraseIdx_of_lt hi];simp at hn ⊢;omega) λ ys d' hp=>?_)
  refine zzb (h _ d' ?_)
  exact (hp.cons _).trans (Qi hi)
end
theorem Alo {α:Type} (next:Nat->Nat):∀ (f k:Nat) (left:List α) (out:Array α),f=left.length->(pickOrder.go next f k left out).toList.Perm (out.toList++left)
 | 0,k,left,out,hf=>by
  have:left=[]:=List.length_eq_zero_iff.mp hf.symm
  subst this
  unfold pickOrder.go
  rw [List.append_nil]
 | f+1,k,left,out,hf=>by
  unfold pickOrder.go
  have hi:next k % left.length<left.length:=Nat.mod_lt _ (by omega)
  rw [List.getElem?_eq_getElem hi]
  dsimp only
  refine (Alo next f (k+1) _ _ (by rw [List.length_eraseIdx_of_lt hi];omega)).trans ?_
  rw [Array.toList_push,List.append_assoc]
  exact (Qi hi).append_left _
theorem Am9 {α:Type} (next:Nat->Nat) (xs:Array α):(pickOrder next xs).toList.Perm xs.toList:=by
 have:=Alo next xs.size 0 xs.toList #[] (by simp)
 simpa [pickOrder] using this
end
section
def ltY (x y:PV):Bool:=ltK 8 x y (bC false true)
def ltN (x y:PV):Bool:=ltK 8 x y (bC true false)
def Aiq (b:Bool) (x y:PV):Bool:=bC (ltN x y) (ltY x y) b
def Ao7 (x:PV) (l:List PV) (k:List PV->Bool):Bool:=@List.rec _ (λ Z=>(List PV->Bool)->Bool) (λ k=>k [x]) (λ y r ih k=>ltK 8 x y λ b=>bC (ih λ r'=>k (y::r')) (k (x::y::r)) b) l k
theorem Aye:∀ (n:Nat) (p q:PV) (k:Bool->Bool),ltK n p q k=true->∃ b,k b=true:=by
 intro n
 induction n with
 | zero=>exact λ p q k e=>ff e
 | succ n ih=>
  have eq_or:∀ (n:Nat) (p q:PV) (k:Bool->Bool),eqK n p q k=true->∃ b,k b=true:=by
   intro n
   induction n with
   | zero=>exact λ p q k e=>ff e
   | succ n ih=>
    have key:∀ (l l':List PV) (k:Bool->Bool),Asd (eqK n) l l' k=true->∃ b,k b=true:=by
     intro l
     induction l with
     | nil=>intro l' k e;cases l'<;>exact ⟨_,e⟩
     | cons p l ihl=>
      intro l' k e
      cases l' with
      | nil=>exact ⟨_,e⟩
      | cons q l'=>exact (ih p q _ e).elim λ a e=>(ihl l' _ e).elim λ b e=>⟨_,e⟩
    intro p q k e
    cases p with
    | bool a=>exact (Ajw e).elim λ b h=>⟨_,h.2⟩
    | int a=>cases q<;>first|exact ⟨_,e⟩|exact ff e
    | str a=>cases q<;>first|exact ⟨_,e⟩|exact ff e
    | tup a=>cases q<;>first|exact ⟨_,e⟩|exact key _ _ k e|exact ff e
    | _=>exact ff e
  have key:∀ (l l':List PV) (k:Bool->Bool),Air (eqK n) (ltK n) l l' k=true->∃ b,k b=true:=by
   intro l
   induction l with
   | nil=>intro l' k e;cases l'<;>exact ⟨_,e⟩
   | cons p l ihl=>
    intro l' k e
    cases l' with
    | nil=>exact ⟨_,e⟩
    | cons q l'=>exact (eq_or n p q _ e).elim λ b e=>by cases b with
     | true=>exact ihl l' k e
     | false=>exact ih p q k e
  intro p q k e
  cases p with
  | int a=>exact (S6 e).elim λ b h=>⟨_,(Aaq k a b).symm.trans h.2⟩
  | str a=>exact (Pz e).elim λ b h=>⟨_,h.2⟩
  | tup a=>exact (Acf e).elim λ b h=>key a b k h.2
  | _=>exact ff e
theorem Av2 {x:PV}:∀ {l:List PV} {k:List PV->Bool},Ao7 x l k=true->∃ l',l'.Perm (x::l)/\k l'=true
 | [],k,e=>⟨_,.refl _,e⟩
 | y::r,k,e=>(Aye 8 x y (λ b=>bC (Ao7 x r λ r'=>k (y::r')) (k (x::y::r)) b) e).elim λ b e=>by
  cases b with
  | true=>exact ⟨_,.refl _,e⟩
  | false=>exact (Av2 (l:=r) (k:=λ r'=>k (y::r')) e).elim λ l' h=>⟨_,(h.1.cons y).trans (.swap x y r),h.2⟩
def Vf (l:List PV) (acc:List PV) (k:List PV->Bool):Bool:=@List.rec _ (λ Z=>List PV->Bool) k (λ x Z ih acc=>Ao7 x acc ih) l acc
theorem Aq1 {k:List PV->Bool}:∀ {l acc:List PV},Vf l acc k=true->∃ l',l'.Perm (l++acc)/\k l'=true
 | [],acc,e=>⟨_,.refl _,e⟩
 | x::r,acc,e=>(Av2 (l:=acc) (k:=λ acc=>Vf r acc k) e).elim λ a h=>(Aq1 (l:=r) h.2).elim λ l' h'=>⟨l',h'.1.trans ((h.1.append_left r).trans List.perm_middle),h'.2⟩
def Ada (x:PV) (l:List PV):Bool:=@List.rec _ (λ Z=>Bool) true (λ y Z ih=>bC false (bC false (bC ih false (D9 x y)) (ltN y x)) (ltY x y)) l
def Adb (l:List PV):Bool:=@List.rec _ (λ Z=>Bool) true (λ x r ih=>bC false ih (Ada x r)) l
theorem Abl {x:PV}:∀ {l:List PV},Ada x l=true->∀ y∈l,Aiq true x y=true/\Aiq false y x=true/\D9 x y=false
 | [],_,y,hy=>absurd hy zzj
 | z::r,e,y,hy=>Bs (t:=bC false (bC (Ada x r) false (D9 x z)) (ltN z x)) e λ e1 e=>Bs (t:=bC (Ada x r) false (D9 x z)) e λ e2 e=>by
  cases e3:D9 x z with
  | true=>rw [e3] at e;exact ff e
  | false=>
   rw [e3] at e
   exact (List.mem_cons.mp hy).elim (λ q=>q▸⟨e1,e2,e3⟩) (Abl (l:=r) e y)
theorem Wq:∀ {l:List PV},Adb l=true->∀ i j (h1:i<l.length) (h2:j<l.length),i<j->Aiq true l[i] l[j]=true/\Aiq false l[j] l[i]=true/\D9 l[i] l[j]=false
 | [],_,i,j,h1,h2,hij=>absurd h1 (Nat.not_lt_zero _)
 | x::r,e,i,j,h1,h2,hij=>Bs (t:=Adb r) e λ e1 e=>by
  cases j with
  | zero=>exact absurd hij (Nat.not_lt_zero _)
  | succ j=>cases i with
   | zero=>exact Abl e1 _ (List.getElem_mem _)
   | succ i=>exact Wq (l:=r) e i j (Nat.lt_of_succ_lt_succ h1) (Nat.lt_of_succ_lt_succ h2) (Nat.lt_of_succ_lt_succ hij)
theorem Ar5 {l:List PV} (e:Adb l=true) {i j:Nat} (h1:i<l.length) (h2:j<l.length) (hne:i≠j):Aiq (decide (i<j)) l[i] l[j]=true:=by
 by_cases h:i<j
 ·rw [decide_eq_true h];exact (Wq e i j h1 h2 h).1
 ·rw [decide_eq_false h];exact (Wq e j i h2 h1 (Nat.lt_of_le_of_ne (Nat.not_lt.mp h) hne.symm)).2.1
theorem Aof {l:List PV} (hk:∀ p∈l,p.hk=true) (e:Adb l=true) {i j:Nat} (h1:i<l.length) (h2:j<l.length) (q:l[i]=l[j]):i=j:=by
 have key:∀ {i j:Nat} (h1:i<l.length) (h2:j<l.length),l[i]=l[j]->¬ i<j:=λ h1 h2 q h=>by
  have a:=(Wq e _ _ h1 h2 h).2.2
  rw [q] at a
  exact Bool.false_ne_true (a.symm.trans ((Tt (hk _ (List.getElem_mem h2)) _).mpr rfl))
 exact Nat.le_antisymm (Nat.not_lt.mp (key h2 h1 q.symm)) (Nat.not_lt.mp (key h1 h2 q))
theorem Aic {l:List PV} (hk:∀ p∈l,p.hk=true) (e:Adb l=true):l.Nodup:=List.pairwise_iff_getElem.mpr λ i j hi hj hij q=>Nat.ne_of_lt hij (Aof hk e hi hj q)
theorem Atq {l l':List PV} (p:l.Perm l'):∃ rk:Nat->Nat,(∀ i (h:i<l.length),∃ h':rk i<l'.length,l'[rk i]=l[i]):=by
 have:∀ i,∃ j,∀ h:i<l.length,∃ h':j<l'.length,l'[j]=l[i]:=λ i=>by
  by_cases h:i<l.length
  ·obtain ⟨j,hj,e⟩:=List.mem_iff_getElem.mp (p.mem_iff.mp (List.getElem_mem h))
   exact ⟨j,λ Z=>⟨hj,e⟩⟩
  ·exact ⟨0,λ q=>absurd q h⟩
 exact ⟨λ i=>(this i).choose,λ i h=>(this i).choose_spec h⟩
end
section
theorem App {b:Bool} {p q:PV} (e:Aiq b p q=true):∃ k:Bool->Bool,ltK 8 p q k=true/\∀ c,k c=true->c=b:=by
 cases b with
 | true=>exact ⟨_,e,λ c h=>by cases c with
  | true=>rfl
  | false=>exact ff h⟩
 | false=>exact ⟨_,e,λ c h=>by cases c with
  | true=>exact ff h
  | false=>rfl⟩
section
variable {prog:Program} {w:World} {A:Around} {J:Aj} {s:Shared}
theorem Ab2 {M:Model} {h:Heap} {x:Str} {t:Tok}:Looks M h (typeOf (.str x t)) (.type "str"):=Looks.of_pure rfl
theorem Amz {M:Model} {h:Heap} {x:Int} {t:Tok}:Looks M h (typeOf (.int x t)) (.type "int"):=Looks.of_pure rfl
theorem Am0 {M:Model} {h:Heap} {a:Addr} {vs:Array Value} (t:IsTup h a vs):Looks M h (typeOf (.ref a)) (.type "tuple"):=by
 obtain ⟨o,ho,hc,_⟩:=t
 rw [<- hc]
 exact (Looks.ld ho).andThen .now
def kdT (k:Nat):Value:=bC' (.type "tuple") (bC' (.type "int") (.type "str") (Nat.beq k 1)) (Nat.ble k 2)
where bC' (f t:Value) (b:Bool):Value:=@Bool.rec (λ Z=>Value) f t b
def kOk (k:Nat):Prop:=k=1\/k=2\/k=3
theorem Apo {M:Model} {p:PV} {v:Value} (r:Ae J s.heap p v) (hk:kOk p.kd):Looks M s.heap (typeOf v) (kdT p.kd):=by
 cases p with
 | str x=>exact Ei r λ t=>Ab2
 | int x=>exact Eh r λ t=>Amz
 | tup l=>exact Cw r λ a vs Z Z t Z=>Am0 t
 | _=>exact hk.elim (λ h=>nomatch h) λ h=>h.elim (λ h=>nomatch h) λ h=>nomatch h
theorem Ap1 {n:Nat} {b:Bool} {p q:PV} {u v:Value} {k:Bool->Bool} {Q:Bool->Shared->Prop} (hu:A.units+n<cLine) (r:Ae J s.heap p u) (r':Ae J s.heap q v) (hb:b=true->(p.kd=1/\q.kd=1)\/(p.kd=2/\q.kd=2)) (e:ltK n p q k=true) (h:∀ c,k c=true->Q c s):
  wpAny (model prog w) A (oneLt' b u v) Q (λ Z Z=>False) s:=by
 cases b with
 | false=>exact (A5i n p q u v k hu r r' e).elim λ c t=>kat_one u v (t.2 prog w _ _ (h c t.1))
 | true=>
  cases n with
  | zero=>exact ff e
  | succ n=>
  rcases hb rfl with ⟨h1,h2⟩|⟨h1,h2⟩
  ·obtain ⟨x,rfl⟩:=Gz h1
   obtain ⟨y,rfl⟩:=Gz h2
   exact Ei r λ t=>Ei r' λ t'=>oneLt_str (by have:=h _ e;rw [Y6] at this;simpa using this)
  ·obtain ⟨x,rfl⟩:=Gy h1
   obtain ⟨y,rfl⟩:=Gy h2
   exact Eh r λ t=>Eh r' λ t'=>oneLt_int (h _ ((Aaq k x y).symm.trans e))
theorem Amw {n:Nat} {b:Bool} {Q:Bool->Shared->Prop} {k:Bool->Bool} (hu:A.units+n<cLine) (hq:∀ c,k c=true->Q c s):∀ (l l':List PV) (i:Nat) (us vs:List Value),RepL J s.heap l us->RepL J s.heap l' vs->Air (eqK n) (ltK n) l l' k=true ->
  (i=0->b=true->∀ p q r r',l=p::r->l'=q::r'->(p.kd=1/\q.kd=1)\/(p.kd=2/\q.kd=2)) ->
  KatLex prog w A b (decide (us.length<vs.length)) Q (us.zip vs) i s:=by
 intro l
 induction l with
 | nil=>
  intro l' i us vs r r' e _
  refine C8 r ?_
  cases l' with
  | nil=>refine C8 r' ?_;exact hq _ e
  | cons q l'=>refine A8 r' λ v vs Z Z=>?_;exact hq _ e
 | cons p l ih=>
  intro l' i us vs r r' e hb
  refine A8 r λ u us ru r=>?_
  cases l' with
  | nil=>refine C8 r' ?_;exact hq _ e
  | cons q l'=>
   refine A8 r' λ v vs rv r'=>?_
   have hd:decide ((u::us).length<(v::vs).length)=decide (us.length<vs.length):=decide_eq_decide.mpr Nat.succ_lt_succ_iff
   rw [hd]
   show KatLex prog w A b (decide (us.length<vs.length)) Q ((u,v)::us.zip vs) i s
   refine kat_cons ?_
   obtain ⟨c,e,t⟩:=Amm n (A:=A) p q u v (λ b=>bC (ltK n p q k) (Air (eqK n) (ltK n) l l' k) b) hu e ru rv
   cases c with
   | true=>exact t.e prog _ _ _ (kat_yes (ih l' (i+1) us vs r r' e λ h=>absurd h (Nat.succ_ne_zero i)))
   | false=>
    refine t.e prog _ _ _ (kat_no (Ap1 hu ru rv (λ h=>?_) e hq))
    obtain ⟨h1,h2⟩:=b2 h
    exact hb (eq_of_beq h2) h1 p q l l' rfl rfl
def Ac2 (k:Nat) (l:List PV):Prop:=∀ p∈l,∃ f r,p=.tup (f::r)/\f.kd=k
theorem Alv {M:Model} {k:Nat} (hk:kOk k):∀ {l:List PV} {vs:List Value},RepL J s.heap l vs->Ac2 k l->∃ fs,KatTups s.heap vs fs/\fs.length=vs.length/\∀ v∈fs,Looks M s.heap (typeOf v) (kdT k)
 | [],vs,r,_=>C8 (P:=λ vs=>∃ fs,KatTups s.heap vs fs/\fs.length=vs.length/\∀ v∈fs,Looks M s.heap (typeOf v) (kdT k)) r ⟨[],KatTups.nil,rfl,λ v hv=>absurd hv zzj⟩
 | q::l,vs,r,h=>A8 (P:=λ vs=>∃ fs,KatTups s.heap vs fs/\fs.length=vs.length/\∀ v∈fs,Looks M s.heap (typeOf v) (kdT k)) r λ v ws rv r=>by
  obtain ⟨fs,a,b,c⟩:=Alv hk r λ p hp=>h p (zze _ hp)
  obtain ⟨f,t,rfl,hf⟩:=h q zzf
  refine Cw rv λ x us Z Z tt rl=>?_
  obtain ⟨o,ho,hc,n,hd⟩:=tt
  revert hd
  refine A8 rl λ u us' rf Z hd=>?_
  exact ⟨u::fs,KatTups.cons ho hc hd (by simp) a,congrArg Nat.succ b,λ v hv=>(List.mem_cons.mp hv).elim (λ q=>q▸hf▸Apo rf (hf.symm▸hk)) (c v)⟩
end
end
section
section
variable {prog:Program} {w:World} {A:Around} {J:Aj} {s:Shared}
theorem Axn {l l':List PV} {vs:List Value} (r:RepL J s.heap l vs) (hk:(∀ p∈l,p.kd=1)\/∃ k,kOk k/\Ac2 k l) (hh:∀ p∈l,p.hk=true) (e:Adb l'=true) (p:l.Perm l') (h2:2≤l.length) (hu:A.units+10<cLine) {rk:Nat->Nat}
  (hr:∀ i (h:i<l.length),∃ h':rk i<l'.length,l'[rk i]=l[i]):
  wpAny (model prog w) A (keyKind' vs.toArray) (λ κ s'=>s'=s/\Ask vs.length rk s (kas_ask prog w A κ vs)) (λ Z Z=>False) s:=by
 have hl:=r.length
 have hnd:l.Nodup:=p.nodup_iff.mpr (Aic (λ q hq=>hh q (p.mem_iff.mpr hq)) e)
 have lt:∀ {i},i<vs.length->i<l.length:=λ h=>hl▸h
 have inj:∀ i j,i<vs.length->j<vs.length->rk i=rk j->i=j:=λ i j hi hj q=>by
  obtain ⟨a,b⟩:=hr i (lt hi)
  obtain ⟨a',b'⟩:=hr j (lt hj)
  have:l[i]'(lt hi)=l[j]'(lt hj):=by rw [<- b,<-b'];congr 1
  exact (List.getElem_inj hnd).mp this
 have ltAt:∀ i j (hi:i<vs.length) (hj:j<vs.length),i≠j->Aiq (decide (rk i<rk j)) (l[i]'(lt hi)) (l[j]'(lt hj))=true:=λ i j hi hj hne=>by
  obtain ⟨a,b⟩:=hr i (lt hi)
  obtain ⟨a',b'⟩:=hr j (lt hj)
  rw [<- b,<-b']
  exact Ar5 e a a' λ q=>hne (inj i j hi hj q)
 have vget:∀ i (hi:i<vs.length),vs.getD i Value.none=vs[i]:=λ i hi=>by simp [hi]
 have rget:∀ i (hi:i<vs.length),Ae J s.heap (l[i]'(lt hi)) vs[i]:=λ i hi=>by
  obtain ⟨v,hv,rv⟩:=r.get (List.getElem?_eq_getElem (lt hi))
  rw [List.getElem?_eq_getElem hi] at hv
  cases hv
  exact rv
 have hs:2≤vs.length:=hl▸h2
 rcases hk with h|⟨k,hkk,h⟩
 ·refine kas_kind (T:=.type "str") hs (λ v hv=>?_) (by decide) (by decide) ⟨rfl,⟨λ i j hi hj hne C hC=>?_,inj⟩⟩
  ·obtain ⟨i,hi,rfl⟩:=List.mem_iff_getElem.mp hv
   have rv:=rget i hi
   obtain ⟨x,hx⟩:=Gz (h _ (List.getElem_mem (lt hi)))
   rw [hx] at rv
   exact Ei rv λ t=>Ab2
  ·unfold kas_ask
   rw [vget i hi,vget j hj,keyLt'_oneType]
   obtain ⟨κ,e1,e2⟩:=App (ltAt i j hi hj hne)
   exact Ap1 (n:=8) (b:=true) (k:=κ) (Nat.lt_of_le_of_lt (Nat.add_le_add_left (by decide) _) hu) (rget i hi) (rget j hj) (λ Z=>.inl ⟨h _ (List.getElem_mem (lt hi)),h _ (List.getElem_mem (lt hj))⟩) e1 λ c hc=>e2 c hc▸hC
 ·obtain ⟨fs,a,b,c⟩:=Alv (M:=model prog w) hkk r h
  refine kat_kind a (b▸Nat.lt_of_lt_of_le (by decide) hs) c (by rcases hkk with rfl|rfl|rfl<;>decide) ⟨rfl,⟨λ i j hi hj hne C hC=>?_,inj⟩⟩
  unfold kas_ask
  rw [vget i hi,vget j hj]
  have ri:=rget i hi
  have rj:=rget j hj
  obtain ⟨κ,e1,e2⟩:=App (ltAt i j hi hj hne)
  obtain ⟨f,t,hx,hf⟩:=h _ (List.getElem_mem (lt hi))
  obtain ⟨f',t',hy,hf'⟩:=h _ (List.getElem_mem (lt hj))
  rw [hx] at ri e1
  rw [hy] at rj e1
  have e1:Air (eqK 7) (ltK 7) (f::t) (f'::t') κ=true:=e1
  generalize vs[i]=vi at ri ⊢
  generalize vs[j]=vj at rj ⊢
  refine Cw ri λ x us Z Z tx rl=>Cw rj λ y us' Z Z ty rl'=>?_
  obtain ⟨ox,ho,hc,n,hd⟩:=tx
  obtain ⟨oy,ho',hc',n',hd'⟩:=ty
  refine kat_lt ho hd ho' hd' ?_
  have:=Amw (prog:=prog) (w:=w) (A:=A) (s:=s) (n:=7) (b:=kdT k != .type "tuple") (Q:=C) (k:=κ) (Nat.lt_of_le_of_lt (Nat.add_le_add_left (by decide) _) hu) (λ c hc=>e2 c hc▸hC) _ _ 0 us us' rl rl' e1 λ Z hb p q r r' q1 q2=>by
   cases q1;cases q2
   rw [hf,hf']
   rcases hkk with rfl|rfl|rfl
   ·exact .inl ⟨rfl,rfl⟩
   ·exact .inr ⟨rfl,rfl⟩
   ·exact absurd hb (by decide)
  simpa using this
end
end
section
section
variable {prog:Program} {w:World} {A:Around} {E:Value->Shared->Prop} {s:Shared}
theorem Alz:∀ vs:List Value,List.map (λ x=>x.snd) (vs.zip vs)=vs
 | []=>rfl
 | v::vs=>by rw [List.zip_cons_cons,List.map_cons,Alz vs]
def Dw (h:Heap) (a:Addr) (vs:List Value):Heap:=((h.update a (Obj.mapSeq λ Z=>(#[]:Array Value))).push (seqObj "tuple" vs.toArray 0)).push (seqObj "list" #[] 0)
theorem Pk {a:Addr} {vs:List Value} {n:Nat} {rk:Nat->Nat} {P:PySem.Fin->Shared->Prop} (ho:s.heap.get? a=some (seqObj "list" vs.toArray n)) (h64:vs.length<64)
  (hask:2≤vs.length->wpAny (model prog w) A (keyKind' vs.toArray) (λ κ s'=>s'={s with heap:=Dw s.heap a vs}/\Ask vs.length rk {s with heap:=Dw s.heap a vs} (kas_ask prog w A κ vs)) (λ Z Z=>False) {s with heap:=Dw s.heap a vs})
  (hr:∀ i,i<vs.length->rk i<vs.length) (h4:2≤vs.length->vs.length≤4)
  (h:∀ out:List Value,(vs.length<2/\out=vs)\/(∃ p,PP vs.length p/\(∀ i,i<vs.length->qk rk p i=i)/\out=p.toList.map λ i=>vs.getD i Value.none)->P (.done (.ret .none)) {s with heap:=sortedHeap s.heap a vs out.toArray}):
  wpAny (model prog w) A (Builtin.«list.sort» ⟨[.ref a],[]⟩) P E s:=by
 have ha:a<s.heap.objs.size:=Heap.lt_size ho
 rw [list_sort_plain]
 refine zza (listItems_at ho rfl ?_)
 refine wpAny_bind (listUpdate_at ho rfl ?_ (by rw [List.size_toArray,sizeLine_eq];omega) (Nat.zero_le _))
 obtain ⟨e1,ho1⟩:∃ e1,(s.heap.update a (Obj.mapSeq λ Z=>(#[]:Array Value))).get? a=some (seqObj "list" #[] e1):=⟨_,get?_update_seq ho λ Z=>#[]⟩
 refine zza (seqEpoch_at ho1 rfl ?_)
 refine wpAny_bind (wpAny_newTuple ?_ (by show vs.length≤_;rw [sizeLine_eq];omega))
 refine zza (wpAny_newList ?_ (Nat.zero_le _))
 refine zzg ?_
 have ho6:(Dw s.heap a vs).get? a=some (seqObj "list" #[] e1):=by
  unfold Dw
  exact zzc _ (zzc _ ho1)
 show wpAny (model prog w) A _ P E {s with heap:=Dw s.heap a vs}
 dsimp only
 by_cases h2:vs.toArray.size<2
 ·rw [if_pos h2,if_pos h2]
  refine zza (zzb ?_)
  rw [StateT.run_pure]
  refine zza (zzb ?_)
  dsimp only
  refine zza (seqEpoch_at ho6 rfl ?_)
  have he:(arrOf (SortSt.mk' general' (vs.toArray.zip vs.toArray) #[] 7 none)).map (·.2)=vs.toArray:=by
   show (vs.toArray.zip vs.toArray).map (·.2)=vs.toArray
   apply Array.toList_inj.mp
   simp [Alz]
  rw [he]
  refine wpAny_bind (listUpdate_at ho6 rfl ?_ (Nat.zero_le _) (by rw [List.size_toArray,sizeLine_eq];omega))
  simp only [bne_self_eq_false,Bool.false_eq_true,if_false]
  exact wpAny_pure (h vs (.inl ⟨by simpa using h2,rfl⟩))
 ·rw [if_neg h2,if_neg h2]
  have h2':2≤vs.length:=by simpa using h2
  refine zza (wpAny_mono (hask h2') (λ κ s0 hk=>?_) λ Z Z x=>x.elim)
  obtain ⟨rfl,ask⟩:=hk
  have tree:(kas_sort vs.length).kasWp (kas_ask prog w A κ vs) (λ p s''=>s''={s with heap:=Dw s.heap a vs}/\PP vs.length p/\∀ i,i<vs.length->qk rk p i=i) {s with heap:=Dw s.heap a vs}:=
   Aut ask (h4 h2') λ p pp hu=>⟨rfl,pp,pp.rank hu hr⟩
  refine zza (wpAny_mono (kat_run (Q:=λ st' s'=>s'={s with heap:=Dw s.heap a vs}/\∃ out,(arrOf st').map (·.2)=List.toArray out/\out.length=vs.length/\failedOf st'=none/\(∃ p,PP vs.length p/\(∀ i,i<vs.length->qk rk p i=i)/\out=p.toList.map λ i=>vs.getD i Value.none))
   rfl h2' h64 (λ p' st' s' a1 a2 a3 a4=>⟨a4.1,_,kat_snds rfl a2,(by rw [List.length_map,Array.length_toList,a1]),a3,p',a4.2.1,a4.2.2,rfl⟩) tree) ?_ λ Z Z e=>e)
  rintro ⟨⟨⟩,st'⟩ s' ⟨rfl,out,har,hz,hf,hp⟩
  dsimp only
  rw [har]
  refine zza (seqEpoch_at ho6 rfl ?_)
  refine wpAny_bind (listUpdate_at ho6 rfl ?_ (Nat.zero_le _) (by rw [List.size_toArray,hz,sizeLine_eq];omega))
  rw [hf]
  simp only [bne_self_eq_false,Bool.false_eq_true,if_false]
  exact zzb (h out (.inr hp))
end
theorem Sp {h0 h:Heap} {a:Addr} {vs:List Value} (hk:∀ b o,h0.get? b=some o->h.get? b=some o/\b≠a):∀ b o,h0.get? b=some o->(Dw h a vs).get? b=some o:=λ b o e=>by
 obtain ⟨e1,hne⟩:=hk b o e
 exact zzc _ (zzc _ ((Heap.get?_update_ne _ _ _ _ hne).trans e1))
theorem V2 {h0 h:Heap} {a:Addr} {vs:List Value} {out:Array Value} (hk:∀ b o,h0.get? b=some o->h.get? b=some o/\b≠a):∀ b o,h0.get? b=some o->(sortedHeap h a vs out).get? b=some o:=λ b o e=>
 (Heap.get?_update_ne _ _ _ _ (hk b o e).2).trans (Sp hk b o e)
theorem V3 {h:Heap} {a:Addr} {vs:List Value} {out:Array Value} {n:Nat} (ho:h.get? a=some (seqObj "list" vs.toArray n)):(sortedHeap h a vs out).IsList a out:=by
 have ho1:=get?_update_seq ho λ Z=>(#[]:Array Value)
 have ho6:=zzc (seqObj "list" #[] 0) (zzc (seqObj "tuple" vs.toArray 0) ho1)
 exact ⟨_,get?_update_seq ho6 λ Z=>out,rfl,_,rfl⟩
theorem Yi {J:Aj} {h:Heap}:∀ {l:List PV} {vs:List Value},RepL J h l vs->(∀ p∈l,p.kd=2)->∃ ns,IntsAre vs ns/\l=ns.map PV.int
 | [],vs,r,_=>C8 (P:=λ vs=>∃ ns,IntsAre vs ns/\[]=ns.map PV.int) r ⟨[],.nil,rfl⟩
 | p::l,vs,r,hl=>A8 (P:=λ vs=>∃ ns,IntsAre vs ns/\p::l=ns.map PV.int) r λ v ws rv r=>by
  obtain ⟨ns,a,b⟩:=Yi r λ q hq=>hl q (zze _ hq)
  obtain ⟨x,rfl⟩:=Gy (hl p zzf)
  exact Eh rv λ t=>⟨x::ns,.cons x t a,by rw [List.map_cons,b]⟩
theorem Anc {J:Aj} {h:Heap} {vs:List Value} {ns:List Int} (x:IntsAre vs ns):RepL J h (ns.map PV.int) vs:=by
 induction x with
 | nil=>exact Cx
 | cons n t _ ih=>exact Bd (C2 _ _) ih
def leI (p q:PV):Prop:=∃ a b,p=.int a/\q=.int b/\a≤b
theorem Akw {x:Int}:∀ {l:List PV} {k:List PV->Bool},Ao7 (.int x) l k=true->l.Pairwise leI->∃ l',l'.Perm (.int x::l)/\l'.Pairwise leI/\k l'=true
 | [],k,e,_=>⟨_,.refl _,List.pairwise_singleton _ _,e⟩
 | y::r,k,e,h=>by
  obtain ⟨y,rfl,e⟩:=S6 (k:=λ y'=>ltI x y' λ b=>bC (Ao7 (.int x) r λ r'=>k (y::r')) (k (.int x::y::r)) b) e
  have e:=(Aaq _ x y).symm.trans e
  obtain ⟨h1,h2⟩:=List.pairwise_cons.mp h
  by_cases hxy:x<y
  ·rw [decide_eq_true hxy] at e
   refine ⟨_,.refl _,List.pairwise_cons.mpr ⟨λ z hz=>(List.mem_cons.mp hz).elim (λ q=>q▸⟨x,y,rfl,rfl,Int.le_of_lt hxy⟩) λ hz=>?_,h⟩,e⟩
   obtain ⟨a,b,e1,e2,e3⟩:=h1 z hz
   cases e1
   exact ⟨x,b,rfl,e2,Int.le_trans (Int.le_of_lt hxy) e3⟩
  ·rw [decide_eq_false hxy] at e
   obtain ⟨l',p,w,e⟩:=Akw (l:=r) (k:=λ r'=>k (.int y::r')) e h2
   refine ⟨_,(p.cons _).trans (.swap _ _ r),List.pairwise_cons.mpr ⟨λ z hz=>(List.mem_cons.mp (p.mem_iff.mp hz)).elim (λ q=>q▸⟨y,x,rfl,rfl,Int.not_lt.mp hxy⟩) (h1 z),w⟩,e⟩
theorem Ag6 {k:List PV->Bool}:∀ {l acc:List PV},Vf l acc k=true->(∀ p∈l,p.kd=2)->acc.Pairwise leI->∃ l',l'.Perm (l++acc)/\l'.Pairwise leI/\k l'=true
 | [],acc,e,_,h=>⟨_,.refl _,h,e⟩
 | x::r,acc,e,hi,h=>by
  obtain ⟨n,rfl⟩:=Gy (hi x zzf)
  obtain ⟨a,p,w,e⟩:=Akw (l:=acc) (k:=λ acc=>Vf r acc k) e h
  obtain ⟨l',p',w',e⟩:=Ag6 (l:=r) e (λ q hq=>hi q (zze _ hq)) w
  exact ⟨l',p'.trans ((p.append_left r).trans List.perm_middle),w',e⟩
theorem Ab0:∀ {l l':List Int},l.Perm l'->l.Pairwise (·≤·)->l'.Pairwise (·≤·)->l=l'
 | [],l',p,_,_=>by rw [List.nil_perm.mp p]
 | a::l,[],p,_,_=>by have:=List.perm_nil.mp p;cases this
 | a::l,b::l',p,h,h'=>by
  have h1:=List.pairwise_cons.mp h
  have h2:=List.pairwise_cons.mp h'
  have hab:a=b:=by
   have ha:a∈b::l':=p.mem_iff.mp zzf
   have hb:b∈a::l:=p.mem_iff.mpr zzf
   rcases List.mem_cons.mp ha with rfl|ha
   ·rfl
   ·rcases List.mem_cons.mp hb with rfl|hb
    ·rfl
    ·have:=h1.1 b hb;have:=h2.1 a ha;omega
  subst hab
  rw [Ab0 (List.Perm.cons_inv p) h1.2 h2.2]
def Fd (k:Nat) (l:List PV):Bool:=@List.rec _ (λ Z=>Bool) true (λ p Z ih=>bC false ih (Nat.beq p.kd k)) l
theorem Mf {k:Nat}:∀ {l:List PV},Fd k l=true->∀ p∈l,p.kd=k
 | [],_,p,hp=>absurd hp zzj
 | q::r,e,p,hp=>Bs (t:=Fd k r) e λ e1 e=>(List.mem_cons.mp hp).elim (λ q=>q▸zzh e1) (Mf (l:=r) e p)
def Ti (k:Nat) (l:List PV):Bool:=@List.rec _ (λ Z=>Bool) true (λ p Z ih=>bC false (bC false ih p.hk) (Lo (lC false λ f Z=>Nat.beq f.kd k) p)) l
theorem Abf {k:Nat}:∀ {l:List PV},Ti k l=true->∀ p∈l,(∃ f r,p=.tup (f::r)/\f.kd=k)/\p.hk=true
 | [],_,p,hp=>absurd hp zzj
 | q::r,e,p,hp=>Bs (t:=bC false (Ti k r) q.hk) e λ e1 e=>Bs (t:=Ti k r) e λ e2 e=>(List.mem_cons.mp hp).elim (λ z=>by
   subst z
   obtain ⟨a,rfl,e1⟩:=Acf e1
   cases a with
   | nil=>exact ff e1
   | cons f t=>exact ⟨⟨f,t,rfl,zzh e1⟩,e2⟩) (Abf (l:=r) e p)
def Vg (l:List PV) (κ:List PV->Bool):Bool:=Vf l [] λ l'=>bC false (bC false (κ l') (Adb l')) (Nat.ble (len l') 4)
def Ab7 (l:List PV) (κ:List PV->Bool):Bool:=lC (κ []) (λ p r=>lC (κ [p]) (λ Z Z=>bC false (vC false F1 (λ Z=>bC false (Vf l [] κ) (Fd 2 l)) (λ Z=>bC false (Vg l κ) (Fd 1 l)) (lC false λ f Z=>bC false (bC false (Vg l κ) (Ti f.kd l)) (Nat.ble (Nat.sub f.kd 1) 2)) F1 F2 F1 F1 p) (Nat.blt (len l) 64)) r) l
end
section
theorem Asj {f:PV} {r:List PV} (h:(PV.tup (f::r)).hk=true):kOk f.kd:=Bs (b:=hkB f 5) (t:=hkL r 5) h λ h Z=>by
 cases f with
 | str x=>exact .inl rfl
 | int x=>exact .inr (.inl rfl)
 | tup l=>exact .inr (.inr rfl)
 | _=>exact ff h
def Ah3 (l l':List PV):Prop:=(l.length<2/\l'=l)\/(2≤l.length/\l.length<64/\l'.Perm l/\(((∀ p∈l,p.kd=2)/\l'.Pairwise leI)\/(((∀ p∈l,p.kd=1)\/∃ k,kOk k/\Ac2 k l)/\(∀ p∈l,p.hk=true)/\l'.length≤4/\Adb l'=true)))
theorem Az3 {l:List PV} {κ:List PV->Bool} (e:Vg l κ=true):∃ l',l'.Perm l/\(l'.length≤4/\Adb l'=true)/\κ l'=true:=
 (Aq1 e).elim λ l' h=>⟨l',(List.append_nil l)▸h.1,Bs h.2 λ h4 e=>Bs e λ hc e=>⟨⟨By l'▸zzi h4,hc⟩,e⟩⟩
theorem Ay1 {κ:List PV->Bool} {l:List PV} {p:PV} (h2:2≤l.length) (hz:l.length<64) (e:vC false F1 (λ Z=>bC false (Vf l [] κ) (Fd 2 l)) (λ Z=>bC false (Vg l κ) (Fd 1 l)) (lC false λ f Z=>bC false (bC false (Vg l κ) (Ti f.kd l)) (Nat.ble (Nat.sub f.kd 1) 2)) F1 F2 F1 F1 p=true):∃ l',Ah3 l l'/\κ l'=true:=by
 have key:Vg l κ=true->((∀ p∈l,p.kd=1)\/∃ k,kOk k/\Ac2 k l)->(∀ p∈l,p.hk=true)->∃ l',Ah3 l l'/\κ l'=true:=λ e a b=>(Az3 e).elim λ l' h=>⟨l',.inr ⟨h2,hz,h.1,.inr ⟨a,b,h.2.1⟩⟩,h.2.2⟩
 cases p with
 | int a=>exact Bs (t:=Vf l [] κ) e λ hk e=>(Ag6 e (Mf hk) .nil).elim λ l' h=>⟨l',.inr ⟨h2,hz,(List.append_nil l)▸h.1,.inl ⟨Mf hk,h.2.1⟩⟩,h.2.2⟩
 | str a=>exact Bs (t:=Vg l κ) e λ hk e=>key e (.inl (Mf hk)) λ p hp=>(Gz (Mf hk p hp)).elim λ x h=>h▸rfl
 | tup a=>
  cases a with
  | nil=>exact ff e
  | cons f t=>
   refine Bs (t:=bC false (Vg l κ) (Ti f.kd l)) e λ Z e=>Bs e λ hk e=>?_
   have h:=Abf hk
   refine key e (.inr ⟨f.kd,?_,λ p hp=>(h p hp).1⟩) λ p hp=>(h p hp).2
   cases l with
   | nil=>exact absurd h2 (by decide)
   | cons y l=>
    obtain ⟨⟨f',r',rfl,hf⟩,hh⟩:=h y zzf
    exact hf▸Asj hh
 | _=>exact ff e
theorem Ay2 {κ:List PV->Bool}:∀ {l:List PV},Ab7 l κ=true->∃ l',Ah3 l l'/\κ l'=true
 | [],e=>⟨[],.inl ⟨Nat.zero_lt_succ 1,rfl⟩,e⟩
 | [p],e=>⟨[p],.inl ⟨Nat.lt_succ_self 1,rfl⟩,e⟩
 | p::q::r,e=>Bs (b:=Nat.blt (len (p::q::r)) 64) e λ hz e=>Ay1 (p:=p) (Nat.le_add_left 2 r.length) (By (p::q::r)▸zzi hz) e
def Al0 (B:Aq) (A:Around) (J:Aj) (σ:PS) (s:Shared) (x:Value) (l:List PV):Prop:=
 ∀ (E:Value->Shared->Prop) (Q:List Value->Shared->Prop),(∀ l' vs s',Nx B Ao J s J σ s'->RepL J s'.heap l' vs->l'.Perm l->Q vs s')->wpAny (model B.prog B.w) A (collect x) Q E s
theorem Ak9 {α:Type} {l l':List α} {d:α} {n:Nat} {p:Array Nat} {rk:Nat->Nat} (hl:l.length=n) (hl':l'.length=n) (pp:PP n p) (hq:∀ i,i<n->qk rk p i=i) (hr:∀ i (h:i<l.length),∃ h':rk i<l'.length,l'[rk i]=l[i]):
  (p.toList.map λ i=>l.getD i d)=l':=by
 apply List.ext_getElem
 ·rw [List.length_map,Array.length_toList,pp.size,hl']
 ·intro i h1 h2
  have hi:i<n:=by omega
  have e1:p.toList[i]'(by rw [Array.length_toList,pp.size];exact hi)=p.getD i 0:=by
   rw [Aku,<-Array.getElem?_toList,List.getElem?_eq_getElem (by rw [Array.length_toList,pp.size];exact hi)]
   rfl
  rw [List.getElem_map,e1]
  have hp:=pp.lt i hi
  obtain ⟨h',e2⟩:=hr (p.getD i 0) (by omega)
  have:l.getD (p.getD i 0) d=l[p.getD i 0]'(by omega):=by
   have h3:p.getD i 0<l.length:=by omega
   rw [List.getD_eq_getElem?_getD,List.getElem?_eq_getElem h3];rfl
  rw [this,<-e2]
  have q:=hq i hi
  unfold qk at q
  congr 1
section
variable {B:Aq} {A:Around} {J:Aj} {σ:PS} {s:Shared}
theorem Agy {h:Heap} {l:List PV} {vs:List Value} (r:RepL J h l vs):∀ (is:List Nat),(∀ i∈is,i<l.length)->RepL J h (is.map λ i=>l.getD i .none) (is.map λ i=>vs.getD i Value.none)
 | [],_=>Cx
 | i::is,hi=>by
  refine Bd ?_ (Agy r is λ j hj=>hi j (zze _ hj))
  obtain ⟨v,hv,rv⟩:=r.get (List.getElem?_eq_getElem (hi i zzf))
  show Ae J h (l.getD i .none) (vs.getD i Value.none)
  rw [List.getD_eq_getElem?_getD,List.getD_eq_getElem?_getD,hv,List.getElem?_eq_getElem (hi i List.mem_cons_self)]
  exact rv
theorem T9 {x:Value} {l:List PV} {κ:List PV->Bool} {Q:Value->Shared->Prop} {E:Value->Shared->Prop} (hu:A.units+30<cLine) (hc:Al0 B A.in1 J σ s x l) (e:Ab7 l κ=true) (hz:l.length≤Bv)
  (h:∀ v s' l',κ l'=true->Nx B Ao J s J σ s'->Ae J s'.heap (.lst l') v->Q v s'):wpAny (model B.prog B.w) A (call (.builtin "sorted") [x]) Q E s:=by
 obtain ⟨l',ho,e⟩:=Ay2 e
 refine Calls.call_function_entry kind_sorted plain_sorted entry_sorted (args_sorted1 _) ?_
 unfold Builtin.«sorted»
 refine zza (m:=checkCount "sorted" 1 1 _) (zzb ?_)
 refine zza (hc _ _ λ l1 vs s1 x1 r p=>?_)
 have hvl:=r.length
 have hpl:=p.length_eq
 refine wpAny_bind (wpAny_newList ?_ (by rw [hvl,hpl];exact Nat.le_trans hz B0))
 have hoL:(s1.heap.push (seqObj "list" vs.toArray 0)).get? s1.heap.objs.size=some (seqObj "list" vs.toArray 0):=zzd _ rfl
 have k1:∀ b o,s1.heap.get? b=some o->(s1.heap.push (seqObj "list" vs.toArray 0)).get? b=some o/\b≠s1.heap.objs.size:=λ b o q=>⟨zzc _ q,Nat.ne_of_lt (Heap.lt_size q)⟩
 have fin:∀ out:List Value,RepL J s1.heap l' out->Q (.ref s1.heap.objs.size) {s1 with heap:=sortedHeap (s1.heap.push (seqObj "list" vs.toArray 0)) s1.heap.objs.size vs out.toArray}:=λ out ro=>by
  have hk:=V2 (vs:=vs) (out:=out.toArray) k1
  have hL:=V3 (out:=out.toArray) hoL
  generalize sortedHeap (s1.heap.push (seqObj "list" vs.toArray 0)) s1.heap.objs.size vs out.toArray=H at hk hL ⊢
  have y:Nx B Ao J s1 J σ {s1 with heap:=H}:=Nx.keep x1.st (Ab _ _) s1.toks hk
  exact h (.ref s1.heap.objs.size) {s1 with heap:=H} l' e (x1.trans y) (Hv (B5 x1.st.idOk) hL (y.upL ro))
 refine zza (zzg (wpAny_call_entry slot_list_sort ⟨_,hoL,rfl⟩ entry_list_sort ?body (args_list_sort _)))
 case body=>
  rcases ho with ⟨hs,rfl⟩|⟨h2,h64,hp',hcase⟩
  ·have:l1=l':=by
    match l',l1,p,hs with
    | [],l1,p,_=>exact List.perm_nil.mp p
    | [a],l1,p,_=>exact List.perm_singleton.mp p
    | _::_::_,_,_,hs=>exfalso;simp only [List.length_cons] at hs;omega
   subst this
   refine Pk (s:={s1 with heap:=s1.heap.push (seqObj "list" vs.toArray 0)}) (rk:=id) hoL (by omega) (λ h2=>by omega) (λ i hi=>hi) (λ Z=>by omega) λ out ho=>⟨_,rfl,?_⟩
   rcases ho with ⟨_,rfl⟩|⟨q,pp,hq,rfl⟩
   ·exact zzb ⟨_,rfl,fin _ r⟩
   ·rw [Ak9 rfl rfl pp hq λ i hi=>⟨hi,rfl⟩]
    exact zzb ⟨_,rfl,fin vs r⟩
  ·rcases hcase with ⟨hi1,hle⟩|⟨hk,hh,hz4,hs⟩
   ·obtain ⟨ns,hI,hl1⟩:=Yi r λ q hq=>hi1 q (p.mem_iff.mp hq)
    refine list_sort_tree (s:={s1 with heap:=s1.heap.push (seqObj "list" vs.toArray 0)}) hoL hI (by omega) λ out ns' a1 a2 a3=>⟨_,rfl,zzb ⟨_,rfl,?_⟩⟩
    have hl':l'=ns'.map PV.int:=by
     obtain ⟨ms,rfl⟩:∃ ms:List Int,l'=ms.map PV.int:=by
      have hall:∀ q∈l',q.kd=2:=λ q hq=>hi1 q (hp'.mem_iff.mp hq)
      clear hle hp' fin e h
      induction l' with
      | nil=>exact ⟨[],rfl⟩
      | cons q t ih=>
       obtain ⟨ms,rfl⟩:=ih (λ q hq=>hall q (zze _ hq))
       obtain ⟨x,rfl⟩:=Gy (hall q zzf)
       exact ⟨x::ms,rfl⟩
     congr 1
     have pm:(ms.map PV.int).Perm (ns.map PV.int):=hp'.trans (p.symm.trans (by rw [hl1]))
     have pm':ms.Perm ns:=by
      have:=pm.map λ q:PV=>@PV.rec (λ Z=>Int) (λ Z=>Unit) 0 (λ Z=>0) (λ x=>x) (λ Z=>0) (λ Z Z=>0) (λ Z Z=>0) (λ Z Z=>0) (λ Z=>0) (λ Z=>0) (λ Z=>0) () (λ Z Z Z Z=>()) q
      rw [List.map_map,List.map_map] at this
      have id':∀ l:List Int,l.map ((λ q:PV=>@PV.rec (λ Z=>Int) (λ Z=>Unit) 0 (λ Z=>0) (λ x=>x) (λ Z=>0) (λ Z Z=>0) (λ Z Z=>0) (λ Z Z=>0) (λ Z=>0) (λ Z=>0) (λ Z=>0) () (λ Z Z Z Z=>()) q) ∘ PV.int)=l:=λ l=>List.map_id l
      rw [id',id'] at this
      exact this
     refine Ab0 (pm'.trans a2.symm) ?_ a3
     rw [List.pairwise_map] at hle
     exact hle.imp λ hx=>by obtain ⟨a,b,e1,e2,e3⟩:=hx;cases e1;cases e2;exact e3
    have:=fin out.toList (by rw [hl'];exact Anc a1)
    simpa using this
   ·have pl:l1.Perm l':=p.trans hp'.symm
    obtain ⟨rk,hr⟩:=Atq pl
    have hll:=pl.length_eq
    have y:=Nx.keep x1.st (Ab _ _) s1.toks (Sp (vs:=vs) k1)
    refine Pk (s:={s1 with heap:=s1.heap.push (seqObj "list" vs.toArray 0)}) (rk:=rk) hoL (by omega) (λ Z=>Axn (A:=A.in1.in1) (s:={s1 with heap:=Dw (s1.heap.push (seqObj "list" vs.toArray 0)) s1.heap.objs.size vs}) (y.upL r) (hk.imp (λ h q hq=>h q (p.mem_iff.mp hq)) λ h=>h.imp λ k h=>⟨h.1,λ q hq=>h.2 q (p.mem_iff.mp hq)⟩) (λ q hq=>hh q (p.mem_iff.mp hq)) hs pl (by omega) (by show A.units+1+1+10<cLine;omega) hr) (λ i hi=>?_) (λ Z=>by omega) λ out ho=>⟨_,rfl,?_⟩
    ·obtain ⟨h',_⟩:=hr i (by omega)
     omega
    ·rcases ho with ⟨h1,_⟩|⟨q,pp,hq,rfl⟩
     ·omega
     ·have em:=Ak9 (d:=PV.none) (n:=vs.length) (by omega) (by omega) pp hq hr
      have ro:=Agy r q.toList λ i hi=>by
       obtain ⟨j,hj,rfl⟩:=List.mem_iff_getElem.mp hi
       have hj':j<vs.length:=by rw [Array.length_toList,pp.size] at hj;exact hj
       have:=pp.lt j hj'
       rw [Aku,<-Array.getElem?_toList,List.getElem?_eq_getElem hj] at this
       simp only [Option.getD_some] at this
       omega
      rw [em] at ro
      exact zzb ⟨_,rfl,fin _ ro⟩
end
end
section
structure Xu (own:Addr->Prop) (s s':Shared):Prop where
 keep:∀ b o,s.heap.get? b=some o->¬ own b->s'.heap.get? b=some o
 sm:Sm s s'
theorem Xu.trans {own:Addr->Prop} {s s' s'':Shared} (a:Xu own s s') (b:Xu own s' s''):Xu own s s'':=⟨λ x o e n=>b.keep x o (a.keep x o e n) n,a.sm.trans b.sm⟩
theorem Xu.mono {own own':Addr->Prop} {s s':Shared} (a:Xu own s s') (h:∀ b,own b->own' b):Xu own' s s':=⟨λ x o e n=>a.keep x o e λ q=>n (h x q),a.sm⟩
structure Afc (prog:Program) (w:World) (A:Around) (I:Addr) (own:Addr->Prop) (D:Addr) (n:Nat) (V:Nat->Heap->Value->Prop) (R:Nat->Shared->Prop):Prop where
 item:∀ k s (Q:Option Value->Shared->Prop) (E:Value->Shared->Prop),k<n->R k s->(∀ v s',Xu own s s'->R (k+1) s'->V k s'.heap v->Q (some v) s')->wpAny (model prog w) A (pyNext (.ref I)) Q E s
 done:∀ s (Q:Option Value->Shared->Prop) (E:Value->Shared->Prop),R n s->(∀ s',Xu own s s'->Q none s')->wpAny (model prog w) A (pyNext (.ref I)) Q E s
 touch:∀ k s h',R k s->h'.objs.size=s.heap.objs.size->(∀ b o,s.heap.get? b=some o->b≠D->h'.get? b=some o)->R k {s with heap:=h'}
 keepV:∀ k v h h',V k h v->(∀ b o,h.get? b=some o->¬ own b->b≠D->h'.get? b=some o)->V k h' v
 out:¬ own D
def LO (dd:Option Addr) (sl:Array (Option Value)) (o:Obj):Prop:=o.cls=.type "list"/\o.dict=dd/\o.slots=sl
theorem Tv {o:Obj} {xs:Array Value} {c:Nat} (f:Array Value->Array Value) (hd:o.data=.seq xs c):∃ c',(Obj.mapSeq f o).data=.seq (f xs) c'/\(∀ dd sl,LO dd sl o->LO dd sl (Obj.mapSeq f o))/\(Obj.mapSeq f o).isFreed=false:=by
 obtain ⟨c',e⟩:=Obj.data_mapSeq hd f
 refine ⟨c',e,λ dd sl h=>?_,?_⟩
 ·obtain ⟨cc,d0,da,s0⟩:=o
  simp only at hd
  subst hd
  exact h
 generalize Obj.mapSeq f o=q at e
 obtain ⟨cc,dd,da,sl⟩:=q
 simp only at e
 subst e
 rfl
def Aw5 (own:Addr->Prop) (D:Addr):Addr->Prop:=λ b=>own b\/b=D
section
variable {prog:Program} {w:World} {A:Around} {I D:Addr} {own:Addr->Prop} {n:Nat} {V:Nat->Heap->Value->Prop} {R:Nat->Shared->Prop} {dd:Option Addr} {sl:Array (Option Value)}
theorem Aqd {Z:Result->Shared->Prop} (W:Afc prog w A.in1 I own D n V R) (res:Value):
  ∀ (k i:Nat) (s:Shared) (acc:List Value) (vs:List Value) (o:Obj) (c:Nat),n - i=k->i≤n->R i s->s.heap.get? D=some o->LO dd sl o->o.data=.seq (acc++vs).toArray c->vs.length=i->(∀ j (h:j<vs.length),V j s.heap vs[j])->acc.length+n≤sizeLine ->
  (∀ s' vs' o' c',Xu (Aw5 own D) s s'->s'.heap.get? D=some o'->LO dd sl o'->o'.data=.seq (acc++vs').toArray c'->vs'.length=n->(∀ j (h:j<vs'.length),V j s'.heap vs'[j])->Z (.ok (.ret res)) s') ->
  codeAny (model prog w) A (.builtin "list.extend.loop" ⟨[.ref D,.ref I,res],[]⟩) Z s:=by
 intro k
 induction k with
 | zero=>
  intro i s acc vs o c hk hi hr hD hc hd hl hv hz h
  have hin:i=n:=by omega
  subst hin
  refine codeAny_builtin F.entry_extend_loop ?_
  rw [Around.under_plainId F.plain_extend_loop _]
  show wpAny _ A.in1 (pyNext (.ref I) >>= _) _ _ s
  refine zza (W.done s _ _ hr λ s' hk'=>?_)
  exact zzb (h s' vs o c (hk'.mono λ b q=>.inl q) (hk'.keep D o hD W.out) hc hd hl λ j hj=>W.keepV j _ _ _ (hv j hj) λ b o e n Z=>hk'.keep b o e n)
 | succ k ih=>
  intro i s acc vs o c hk hi hr hD hc hd hl hv hz h
  have hlt:i<n:=by omega
  refine codeAny_builtin F.entry_extend_loop ?_
  rw [Around.under_plainId F.plain_extend_loop _]
  show wpAny _ A.in1 (pyNext (.ref I) >>= _) _ _ s
  refine zza (W.item i s _ _ hlt hr λ v s' hk' hr' hv'=>?_)
  have hD':=hk'.keep D o hD W.out
  show wpAny _ A.in1 (updateSeq D (·.push v) >>= _) _ _ _
  have hsz:(acc++vs).toArray.size=acc.length+i:=by simp [hl]
  refine wpAny_bind (wpAny_updateSeq hD' hd ?_ (by rw [hsz];omega) (by show ((acc++vs).toArray.push v).size≤sizeLine+1;rw [Array.size_push,hsz];omega))
  have hup:∀ b o,s'.heap.get? b=some o->b≠D->(s'.heap.update D (Obj.mapSeq (·.push v))).get? b=some o:=λ b o e hne=>(Heap.get?_update_other _ _ (Ne.symm hne)).trans e
  obtain ⟨c2,hd2,hc2,hfr⟩:=Tv (·.push v) hd
  have hD2:=Heap.get?_update_self (Obj.mapSeq (·.push v)) hD' hfr
  have hd2:(Obj.mapSeq (·.push v) o).data=.seq (acc++(vs++[v])).toArray c2:=by rw [hd2];simp
  have hc2:=hc2 _ _ hc
  refine wpAny_pure ⟨plainId_quiet F.plain_extend_loop _,ih (i+1) _ acc (vs++[v]) _ _ (by omega) hlt (W.touch (i+1) s' _ hr' (Heap.size_update ..) hup) hD2 hc2 hd2 (by simp [hl]) (λ j hj=>?_) hz λ s'' vs' o' c' hk'' a b c d e=>?_⟩
  ·by_cases hj':j<vs.length
   ·rw [List.getElem_append_left hj']
    exact W.keepV j _ _ _ (hv j hj') λ b o e n hne=>hup b o (hk'.keep b o e n) hne
   ·have:j=vs.length:=by simp at hj;omega
    subst this
    simp only [List.getElem_append_right (Nat.le_refl _),Nat.sub_self,List.getElem_cons_zero]
    rw [hl]
    exact W.keepV i _ _ _ hv' λ b o e n hne=>hup b o e hne
  ·refine h s'' vs' o' c' ⟨λ b o e n=>?_,⟨hk''.sm.gens.trans hk'.sm.gens,hk''.sm.os.trans hk'.sm.os⟩⟩ a b c d e
   exact hk''.keep b o (hup b o (hk'.keep b o e λ q=>n (.inl q)) λ q=>n (.inr q)) n
theorem Ve (ch:Addr->Prop) {OKV:(Nat->Heap->Value->Prop)->Prop} {Z:Result->Shared->Prop} {s:Shared} {it:Value} {T:String} {res:Value} {o:Obj} {acc:List Value} {c:Nat} (hT:s.TypeIs it T) (h1:(Value.type T==Value.type "list")=false) (h2:(Value.type T==Value.type "tuple")=false)
  (hne:Builtin.List.listSameRef (.ref D) it=false) (hD:s.heap.get? D=some o) (hc:LO dd sl o) (hd:o.data=.seq acc.toArray c) (hz:acc.length+n<sizeLine)
  (hiter:∀ (Q:Value->Shared->Prop) (E:Value->Shared->Prop),(∀ s' I own V R,(∀ b o,s.heap.get? b=some o->s'.heap.get? b=some o)->Sm s s'->R 0 s'->Afc prog w A.in1 I own D n V R->(∀ b,own b->s.heap.get? b=none\/ch b)->OKV V->Q (.ref I) s')->wpAny (model prog w) A.in1 (pyIter it) Q E s)
  (hhint:∀ (s':Shared) (Q:Bool->Shared->Prop) (E:Value->Shared->Prop),(∀ b o,s.heap.get? b=some o->s'.heap.get? b=some o)->(∀ r,Q r s')->wpAny (model prog w) A.in1 (Builtin.List.listLengthHint it) Q E s')
  (h:∀ s' vs' o' c' V,OKV V->(∀ b o,s.heap.get? b=some o->b≠D->¬ ch b->s'.heap.get? b=some o)->Sm s s'->s'.heap.get? D=some o'->LO dd sl o'->o'.data=.seq (acc++vs').toArray c'->vs'.length=n->(∀ j (h:j<vs'.length),V j s'.heap vs'[j])->Z (.ok (.ret res)) s'):
  wpAny (model prog w) A.in1 (Builtin.List.listExtendWith (.ref D) it res)
   (λ fin s'=>match fin with|.done f=>Z (.ok f) s'|.again c'=>c'.quiet=true/\codeAny (model prog w) A c' Z s') (λ e s'=>Z (.error e) s') s:=by
 unfold Builtin.List.listExtendWith
 refine zza (wpAny_typeOf hT ?_)
 simp only [hne,h1,h2,Bool.or_false,Bool.false_eq_true,if_false]
 refine zza (hiter _ _ λ s1 I own V R hk1 hm1 hr1 W hown hV=>?_)
 refine zza (zzg (hhint s1 _ _ hk1 λ room=>?_))
 have hD1:=hk1 D o hD
 have loop:∀ s2 o2 c2,R 0 s2->Xu (Aw5 own D) s s2->s2.heap.get? D=some o2->LO dd sl o2->o2.data=.seq acc.toArray c2->codeAny (model prog w) A (.builtin "list.extend.loop" ⟨[.ref D,.ref I,res],[]⟩) Z s2:=λ s2 o2 c2 hr2 hk2 hD2 hc2 hd2=>by
  refine Aqd W res n 0 s2 acc [] o2 c2 (by omega) (by omega) hr2 hD2 hc2 (by rw [List.append_nil];exact hd2) rfl (λ j hj=>by cases hj) (by omega) λ s' vs' o' c' hk' a b c d e=>?_
  refine h s' vs' o' c' V hV (λ x ox ex hx hc=>(hk2.trans hk').keep x ox ex λ q=>?_) (hk2.trans hk').sm a b c d e
  rcases q with q|q
  ·rcases hown x q with q|q
   ·rw [q] at ex;cases ex
   ·exact hc q
  ·exact hx q
 refine wpAny_ite_split (λ Z=>?_) λ Z=>zzb ⟨plainId_quiet F.plain_extend_loop _,loop s1 o c hr1 ⟨λ b o e Z=>hk1 b o e,hm1⟩ hD1 hc hd⟩
 refine zza (wpAny_rule ?_)
 refine zza ?_
 show wpAny _ A.in1 (updateSeq D (·.push .none) >>= λ Z=>updateSeq D (·.pop)) _ _ _
 obtain ⟨c1,m1,m1c,m1f⟩:=Tv (·.push Value.none) hd
 refine wpAny_bind (wpAny_updateSeq hD1 hd ?_ (by rw [List.size_toArray];omega) (by show (acc.toArray.push Value.none).size≤sizeLine+1;rw [Array.size_push,List.size_toArray];omega))
 have hD2:=Heap.get?_update_self (Obj.mapSeq (·.push Value.none)) hD1 m1f
 obtain ⟨c2,m2,m2c,m2f⟩:=Tv (·.pop) m1
 refine wpAny_updateSeq hD2 m1 ?_ (by show (acc.toArray.push Value.none).size≤sizeLine;rw [Array.size_push,List.size_toArray];omega) (by show ((acc.toArray.push Value.none).pop).size≤sizeLine+1;rw [Array.pop_push,List.size_toArray];omega)
 have hD3:=Heap.get?_update_self (Obj.mapSeq (·.pop)) hD2 m2f
 have hup:∀ b o,s1.heap.get? b=some o->b≠D->((s1.heap.update D (Obj.mapSeq (·.push Value.none))).update D (Obj.mapSeq (·.pop))).get? b=some o:=λ b o e hne=>(Heap.get?_update_other _ _ (Ne.symm hne)).trans ((Heap.get?_update_other _ _ (Ne.symm hne)).trans e)
 refine zzb ⟨plainId_quiet F.plain_extend_loop _,loop _ _ c2 (W.touch 0 s1 _ hr1 ((Heap.size_update ..).trans (Heap.size_update ..)) hup) ⟨λ b o e n=>hup b o (hk1 b o e) λ q=>n (.inr q),⟨hm1.gens,hm1.os⟩⟩ hD3 (m2c _ _ (m1c _ _ hc)) ?_⟩
 rw [m2,Array.pop_push]
theorem Ai7 {OKV:(Nat->Heap->Value->Prop)->Prop} {Z:Result->Shared->Prop} {s:Shared} {it:Value} {T:String} {res:Value} {o:Obj} {acc:List Value} {c:Nat} (hT:s.TypeIs it T) (h1:(Value.type T==Value.type "list")=false) (h2:(Value.type T==Value.type "tuple")=false)
  (hne:Builtin.List.listSameRef (.ref D) it=false) (hD:s.heap.get? D=some o) (hc:LO dd sl o) (hd:o.data=.seq acc.toArray c) (hz:acc.length+n<sizeLine)
  (hiter:∀ (Q:Value->Shared->Prop) (E:Value->Shared->Prop),(∀ s' I own V R,(∀ b o,s.heap.get? b=some o->s'.heap.get? b=some o)->Sm s s'->R 0 s'->Afc prog w A.in1 I own D n V R->(∀ b,own b->s.heap.get? b=none)->OKV V->Q (.ref I) s')->wpAny (model prog w) A.in1 (pyIter it) Q E s)
  (hhint:∀ (s':Shared) (Q:Bool->Shared->Prop) (E:Value->Shared->Prop),(∀ b o,s.heap.get? b=some o->s'.heap.get? b=some o)->(∀ r,Q r s')->wpAny (model prog w) A.in1 (Builtin.List.listLengthHint it) Q E s')
  (h:∀ s' vs' o' c' V,OKV V->(∀ b o,s.heap.get? b=some o->b≠D->s'.heap.get? b=some o)->Sm s s'->s'.heap.get? D=some o'->LO dd sl o'->o'.data=.seq (acc++vs').toArray c'->vs'.length=n->(∀ j (h:j<vs'.length),V j s'.heap vs'[j])->Z (.ok (.ret res)) s'):
  wpAny (model prog w) A.in1 (Builtin.List.listExtendWith (.ref D) it res)
   (λ fin s'=>match fin with|.done f=>Z (.ok f) s'|.again c'=>c'.quiet=true/\codeAny (model prog w) A c' Z s') (λ e s'=>Z (.error e) s') s:=
 Ve (λ Z=>False) hT h1 h2 hne hD hc hd hz (λ Q E h=>hiter Q E λ s' I own V R a b c d e f=>h s' I own V R a b c d (λ x q=>.inl (e x q)) f) hhint λ s' vs' o' c' V a b=>h s' vs' o' c' V a λ x o e n=>b x o e n (λ q=>q)
end
end
section
def Al4 (prog:Program) (w:World) (A:Around) (x:Value) (n:Nat) (OKV:(Nat->Heap->Value->Prop)->Prop) (s:Shared) (D:Addr):Prop:=
 ∃ (T:String),s.TypeIs x T/\(Value.type T==Value.type "list")=false/\(Value.type T==Value.type "tuple")=false/\Builtin.List.listSameRef (.ref D) x=false /\
  (∀ (Q:Value->Shared->Prop) (E:Value->Shared->Prop),(∀ s' I own V R,(∀ b o,s.heap.get? b=some o->s'.heap.get? b=some o)->Sm s s'->R 0 s'->Afc prog w A I own D n V R->(∀ b,own b->s.heap.get? b=none)->OKV V->Q (.ref I) s')->wpAny (model prog w) A (pyIter x) Q E s) /\
  (∀ (s':Shared) (Q:Bool->Shared->Prop) (E:Value->Shared->Prop),(∀ b o,s.heap.get? b=some o->s'.heap.get? b=some o)->(∀ r,Q r s')->wpAny (model prog w) A (Builtin.List.listLengthHint x) Q E s')
section
variable {prog:Program} {w:World} {A:Around} {D:Addr} {n:Nat} {OKV:(Nat->Heap->Value->Prop)->Prop} {dd:Option Addr} {sl:Array (Option Value)}
theorem U3 {Z:Result->Shared->Prop} {s:Shared} {it:Value} {res:Value} {o:Obj} {acc:List Value} {c:Nat} (F:Al4 prog w A.in1 it n OKV s D)
  (hD:s.heap.get? D=some o) (hc:LO dd sl o) (hd:o.data=.seq acc.toArray c) (hz:acc.length+n<sizeLine)
  (h:∀ s' vs' o' c' V,OKV V->(∀ b o,s.heap.get? b=some o->b≠D->s'.heap.get? b=some o)->Sm s s'->s'.heap.get? D=some o'->LO dd sl o'->o'.data=.seq (acc++vs').toArray c'->vs'.length=n->(∀ j (h:j<vs'.length),V j s'.heap vs'[j])->Z (.ok (.ret res)) s'):
  wpAny (model prog w) A.in1 (Builtin.List.listExtendWith (.ref D) it res)
   (λ fin s'=>match fin with|.done f=>Z (.ok f) s'|.again c'=>c'.quiet=true/\codeAny (model prog w) A c' Z s') (λ e s'=>Z (.error e) s') s:=by
 obtain ⟨T,hT,h1,h2,hne,hi,hh⟩:=F
 exact Ai7 hT h1 h2 hne hD hc hd hz hi hh h
theorem R2 {s:Shared} {it:Value} {Q:List Value->Shared->Prop} {E:Value->Shared->Prop} (hz:n<sizeLine)
  (hF:∀ s1 D,(∀ b o,s.heap.get? b=some o->s1.heap.get? b=some o)->s.heap.get? D=none->(∃ o,s1.heap.get? D=some o)->Sm s s1->Al4 prog w A.in1 it n OKV s1 D)
  (h:∀ (s':Shared) (vs:List Value) V,OKV V->(∀ b o,s.heap.get? b=some o->s'.heap.get? b=some o)->Sm s s'->vs.length=n->(∀ j (h:j<vs.length),V j s'.heap vs[j])->Q vs s'):wpAny (model prog w) A (collect it) Q E s:=by
 unfold collect
 refine zza (wpAny_runValue (codeAny_builtin entry_proto_collect' ?_))
 rw [Around.under_plainId PySem.F.plain_proto_collect _]
 show wpAny _ A.in1 (newList [] >>= λ l=>again (.builtin "list.__iadd__" ⟨[l,it],[]⟩)) _ _ s
 refine zza (wpAny_newObj_type ?_)
 refine zzb ⟨plainId_quiet PySem.F.plain_list_iadd _,codeAny_builtin entry_list_iadd' ?_⟩
 rw [Around.under_plainId PySem.F.plain_list_iadd _]
 have hS₁:(s.heap.push {cls:=.type "list",data:=.seq ([]:List Value).toArray}).get? s.heap.objs.size=some {cls:=.type "list",data:=.seq #[]}:=zzd _ rfl
 show wpAny _ A.in1 (Builtin.List.listExtendWith (.ref s.heap.objs.size) it (.ref s.heap.objs.size)) _ _ _
 have hk1:∀ b o,s.heap.get? b=some o->(s.heap.push {cls:=.type "list",data:=.seq ([]:List Value).toArray}).get? b=some o:=λ b o e=>zzc _ e
 have key:=U3 (A:=A) (acc:=[]) (res:=.ref s.heap.objs.size) (Z:=λ (q:Result) (s':Shared)=>∃ (vs:List Value) (o':Obj) (c':Nat) (V:Nat->Heap->Value->Prop),OKV V/\q=.ok (.ret (.ref s.heap.objs.size))/\(∀ b o,s.heap.get? b=some o->s'.heap.get? b=some o)/\Sm s s'/\s'.heap.get? s.heap.objs.size=some o'/\o'.data=.seq vs.toArray c'/\vs.length=n/\∀ j (h:j<vs.length),V j s'.heap vs[j])
  (hF {s with heap:=s.heap.push {cls:=.type "list",data:=.seq ([]:List Value).toArray}} s.heap.objs.size hk1 (Heap.get?_none_of_le (Nat.le_refl _)) ⟨_,hS₁⟩ ⟨rfl,rfl⟩) hS₁ ⟨rfl,rfl,rfl⟩ rfl (by simpa using hz)
  λ s' vs o' c' V hV k m a b e f g=>⟨vs,o',c',V,hV,rfl,λ b o q=>k b o (hk1 b o q) (Nat.ne_of_lt (Heap.lt_size q)),⟨m.gens,m.os⟩,a,(by simpa using e),f,g⟩
 have fin:∀ {q:Result} {s':Shared},(∃ (vs:List Value) (o':Obj) (c':Nat) (V:Nat->Heap->Value->Prop),OKV V/\q=.ok (.ret (.ref s.heap.objs.size))/\(∀ b o,s.heap.get? b=some o->s'.heap.get? b=some o)/\Sm s s'/\s'.heap.get? s.heap.objs.size=some o'/\o'.data=.seq vs.toArray c'/\vs.length=n/\∀ j (h:j<vs.length),V j s'.heap vs[j]) ->
   q=.ok (.ret (.ref s.heap.objs.size))/\wpAny (model prog w) A (do
   let o<-load s.heap.objs.size
   match o.data with
   | .seq xs _=>pure xs.toList
   | _=>unsupported "internal:collect") Q E s':=by
  rintro q s' ⟨vs,o',c',V,hV,rfl,k,m,a,e,f,g⟩
  refine ⟨rfl,zza (wpAny_load a ?_)⟩
  rw [e]
  exact zzb (h s' vs V hV k m f g)
 refine wpAny_mono key (λ fn s' x=>?_) λ e s' x=>?_
 ·cases fn with
  | done f=>
   obtain ⟨e,y⟩:=fin x
   cases e
   exact y
  | again c₁=>
   refine ⟨x.1,codeAny_mono x.2 λ q s₂ y=>?_⟩
   obtain ⟨rfl,y2⟩:=fin y
   exact y2
 ·obtain ⟨e',_⟩:=fin x
  cases e'
theorem Amp {s:Shared} {it:Value} {Q:Value->Shared->Prop} {E:Value->Shared->Prop} (hz:n<sizeLine)
  (hF:∀ s1 D,(∀ b o,s.heap.get? b=some o->s1.heap.get? b=some o)->s.heap.get? D=none->(∃ o,s1.heap.get? D=some o)->Sm s s1->Al4 prog w A.in1.in1 it n OKV s1 D)
  (h:∀ (s':Shared) (vs:List Value) V,OKV V->(∀ b o,s.heap.get? b=some o->s'.heap.get? b=some o)->Sm s s'->vs.length=n->(∀ j (h:j<vs.length),V j s'.heap vs[j])->s'.heap.IsList s.heap.objs.size vs.toArray->Q (.ref s.heap.objs.size) s'):wpAny (model prog w) A (call (.type "list") [it]) Q E s:=by
 refine callType_codes (Q₁:=λ obj s₁=>obj=.ref s.heap.objs.size/\s₁={s with heap:=s.heap.push {cls:=.type "list",data:=.seq #[]}}) PySem.F.called_list (PySem.F.typeCall_list_1 _) PySem.F.entry_list_init
  (code_list_new _ ⟨rfl,rfl⟩) λ obj s₁ h₁=>?_
 obtain ⟨rfl,rfl⟩:=h₁
 have hS:(s.heap.push {cls:=.type "list",data:=.seq #[]}).get? s.heap.objs.size=some {cls:=.type "list",data:=.seq #[]}:=zzd _ rfl
 refine ⟨⟨_,hS,rfl⟩,PySem.F.args_list_init_2 _ _,?_⟩
 show wpAny _ _ (do let old<-Builtin.List.listItems (.ref s.heap.objs.size);Builtin.List.listUpdate (.ref s.heap.objs.size) (λ Z=>#[]);letGo old.toList.reverse;Builtin.List.listExtendWith (.ref s.heap.objs.size) it .none) _ _ _
 refine zza ?_
 unfold Builtin.List.listItems
 refine zza (wpAny_seqItems hS rfl (zzb ?_))
 show wpAny _ _ (updateSeq s.heap.objs.size (λ Z=>#[]) >>= λ Z=>letGo (#[]:Array Value).toList.reverse >>= λ Z=>Builtin.List.listExtendWith (.ref s.heap.objs.size) it .none) _ _ _
 refine zza (wpAny_updateSeq hS rfl ?_)
 have hS₂:=Heap.get?_update_self (Obj.mapSeq (λ Z=>(#[]:Array Value))) hS rfl
 have hk1:∀ b o,s.heap.get? b=some o->((s.heap.push {cls:=.type "list",data:=.seq #[]}).update s.heap.objs.size (Obj.mapSeq (λ Z=>(#[]:Array Value)))).get? b=some o:=λ b o e=>
  (Heap.get?_update_other _ _ (Ne.symm (Nat.ne_of_lt (Heap.lt_size e)))).trans (zzc _ e)
 refine zza (wpAny_letGo ?_)
 refine U3 (A:=A.in1) (acc:=[]) (hF {s with heap:=(s.heap.push {cls:=.type "list",data:=.seq #[]}).update s.heap.objs.size (Obj.mapSeq (λ Z=>(#[]:Array Value)))} s.heap.objs.size hk1 (Heap.get?_none_of_le (Nat.le_refl _)) ⟨_,hS₂⟩ ⟨rfl,rfl⟩) hS₂ ⟨rfl,rfl,rfl⟩ rfl (by simpa using hz) λ s' vs o' c' V hV k m a b e f g=>?_
 refine ⟨rfl,h s' vs V hV (λ b o q=>k b o (hk1 b o q) (Nat.ne_of_lt (Heap.lt_size q))) ⟨m.gens,m.os⟩ f g ⟨o',a,b.1,c',by rw [e,List.nil_append]⟩⟩
end
section
variable {prog:Program} {w:World} {A:Around} {D:Addr}
theorem Amo {s:Shared} {d:Addr} {es:List DictEntry} {ep:Nat} (hh:A.handled=none) (hsm:(d==sysModules)=false) (Dd:s.heap.get? d=some (W.dictOf es ep)) (hne:d≠D) (hD:∃ o,s.heap.get? D=some o):
  Al4 prog w A (.ref d) es.length (λ V=>V=λ k Z v=>∃ e,es[k]?=some e/\v=e.key) s D:=by
 obtain ⟨oD,hoD⟩:=hD
 have hDI:D≠s.heap.objs.size:=Nat.ne_of_lt (Heap.lt_size hoD)
 have hdI:d≠s.heap.objs.size:=Nat.ne_of_lt (Heap.lt_size Dd)
 refine ⟨"dict",⟨_,Dd,rfl⟩,by decide,by decide,?_,λ Q E h=>?_,λ s' Q E hk h=>?_⟩
 ·simp [Builtin.List.listSameRef,Ne.symm hne]
 ·refine Sh hsm Dd (h _ s.heap.objs.size (λ b=>b=s.heap.objs.size) (λ k Z v=>∃ e,es[k]?=some e/\v=e.key) (λ k s1=>s1.heap.IsKeyIter s.heap.objs.size d k es.length ep/\s1.heap.get? d=some (W.dictOf es ep)) (λ b o e=>zzc _ e) ⟨rfl,rfl⟩ ⟨⟨_,zzd _ rfl,rfl,rfl⟩,zzc _ Dd⟩ ?_ (λ b q=>by subst q;exact Heap.get?_none_of_le (Nat.le_refl _)) rfl)
  refine ⟨λ k s1 Q E hk r h=>?_,λ s1 Q E r h=>?_,λ k s1 h' r Z ht=>?_,λ k v h h' q Z=>q,λ q=>hDI q⟩
  ·refine U9 r.1 r.2 (List.getElem?_eq_getElem hk) λ h' hit hs=>h _ _ ⟨λ b o e n=>hs.extBut b o n e,⟨rfl,rfl⟩⟩ ⟨hit,hs.extBut d _ hdI r.2⟩ ⟨_,List.getElem?_eq_getElem hk,rfl⟩
  ·exact U8 hh r.1 r.2 (List.getElem?_eq_none (Nat.le_refl _)) λ h' he=>h _ ⟨λ b o e n=>he b o n e,⟨rfl,rfl⟩⟩
  ·obtain ⟨⟨o,ho,hr⟩,hd⟩:=r
   exact ⟨⟨o,ht _ _ ho (Ne.symm hDI),hr⟩,ht _ _ hd hne⟩
 ·exact kdl_hint_dict ⟨_,hk _ _ Dd,rfl⟩ (h false)
end
end
section
theorem Adx:typeLookup (.type "list") "keys"=pure none:=by rw [typeLookup_type,builtinLookup_eq_fast];kernel_rfl
theorem Aap:typeLookup (.type "tuple") "keys"=pure none:=by rw [typeLookup_type,builtinLookup_eq_fast];kernel_rfl
section
variable {prog:Program} {w:World} {A:Around} {E:Value->Shared->Prop} {s:Shared}
set_option maxHeartbeats 1000000 in
theorem Aip {a:Addr} {o:Obj} {xs:Array Value} {k:Nat} {Q:Option Value->Shared->Prop} (hx:s.heap.get? a=some o) (hc:o.cls=.type "list") (hdat:o.data=.seq xs k) (hd:o.dict=none) (hA:A.handled=none)
  (h:∀ h' tk,(∀ b o,s.heap.get? b=some o->h'.get? b=some o)->Q none {s with heap:=h',toks:=tk}):
  wpAny (model prog w) A (getAttr? (.ref a) "keys") Q E s:=by
 obtain ⟨c,dct,dat,sl⟩:=o
 simp only at hc hdat hd
 subst hc hdat hd
 obtain ⟨hp,g,d,tk,os⟩:=s
 have hT:∀ tk',(⟨hp,g,d,tk',os⟩:Shared).TypeIs (.ref a) "list":=λ Z=>⟨_,hx,rfl⟩
 have f1:=sub_AttributeError
 have f3:=F.slot_list_getattribute.lookup
 have f4:=F.slot_list_getattribute.bind (.ref a)
 have f5:=am_list_getattr_none
 have hname:(["__module__","__name__","__qualname__","__doc__","__annotations__"]:List Str).contains "keys"=false:=by decide +kernel
 unfold getAttr? getAttrBy? getAttrBy
 repeat (any_goals (first|assumption|exact hT _|((with_reducible show wpAny _ _ (call (Value.builtin "list.__getattribute__") _ _) _ _ _);refine call_meets F.slot_list_getattribute (hT _) am_entry_list_getattribute (F.args_list_getattribute_2 _ _) (meets_getattribute_miss_list a xs k sl "keys" _ Adx hname (by decide)) ⟨hx,hA,λ h' tk' e hx'=>?_⟩)|wp_step))
 obtain ⟨t',u',he⟩:=hx'.there
 show wpAny _ _ (getattributeRaised _ _ _ _ _ _ _) _ _ _
 unfold getattributeRaised
 repeat (any_goals (first|assumption|wp_step))
 exact h _ _ hx'.keeps
set_option maxHeartbeats 1000000 in
theorem Af6 {a:Addr} {o:Obj} {xs:Array Value} {k:Nat} {Q:Option Value->Shared->Prop} (hx:s.heap.get? a=some o) (hc:o.cls=.type "tuple") (hdat:o.data=.seq xs k) (hd:o.dict=none) (hA:A.handled=none)
  (h:∀ h' tk,(∀ b o,s.heap.get? b=some o->h'.get? b=some o)->Q none {s with heap:=h',toks:=tk}):
  wpAny (model prog w) A (getAttr? (.ref a) "keys") Q E s:=by
 obtain ⟨c,dct,dat,sl⟩:=o
 simp only at hc hdat hd
 subst hc hdat hd
 obtain ⟨hp,g,d,tk,os⟩:=s
 have hT:∀ tk',(⟨hp,g,d,tk',os⟩:Shared).TypeIs (.ref a) "tuple":=λ Z=>⟨_,hx,rfl⟩
 have f1:=sub_AttributeError
 have f3:=F.slot_tuple_getattribute.lookup
 have f4:=F.slot_tuple_getattribute.bind (.ref a)
 have f5:=am_tuple_getattr_none
 have hname:(["__module__","__name__","__qualname__","__doc__","__annotations__"]:List Str).contains "keys"=false:=by decide +kernel
 unfold getAttr? getAttrBy? getAttrBy
 repeat (any_goals (first|assumption|exact hT _|((with_reducible show wpAny _ _ (call (Value.builtin "tuple.__getattribute__") _ _) _ _ _);refine call_meets F.slot_tuple_getattribute (hT _) am_entry_tuple_getattribute (F.args_tuple_getattribute_2 _ _) (meets_getattribute_miss_tuple a xs k sl "keys" _ Aap hname (by decide)) ⟨hx,hA,λ h' tk' e hx'=>?_⟩)|wp_step))
 obtain ⟨t',u',he⟩:=hx'.there
 show wpAny _ _ (getattributeRaised _ _ _ _ _ _ _) _ _ _
 unfold getattributeRaised
 repeat (any_goals (first|assumption|wp_step))
 exact h _ _ hx'.keeps
end
end
section
def Za (elt:Expr):Value->Env->Sem Fin->Sem Fin:=λ acc env k=>(eval elt env >>= λ x=>call (.builtin "list.append") [acc,x] >>= λ Z=>pure PUnit.unit) >>= λ Z=>k
def A0e (c elt:Expr):Value->Env->Sem Fin->Sem Fin:=λ acc env k=>(forIn [c] true λ c r=>if r=true then do let ok<-isTrue c env (eval c env);pure (ForInStep.yield ok) else pure (ForInStep.yield r)) >>= λ ok=>if ok=true then Za elt acc env k else k
def Ard (e:Expr) (it2:Expr):Value->Env->Sem Fin->Sem Fin:=λ acc env k=>eval it2 env >>= λ x=>standAt it2.pos >>= λ Z=>foldedSetIterable it2 env x >>= λ x=>holding [x] (pyIter x) >>= λ i=>runOwn (.compStart e 1 i acc env) env >>= λ Z=>k
def Gv (e:Expr) (dep:Nat) (tg:Expr) (p:Pos) (turn:Value->Env->Sem Fin->Sem Fin):Prop:=
 ∀ (it acc:Value) (env:Env),compTurn e dep it acc env=(standAt p >>= λ Z=>pyNext it >>= λ r=>match r with
   | none=>pure (.done .next)
   | some v=>letOwnedTupleGo tg it v >>= λ Z=>assign tg env v >>= λ Z=>turn acc env (again (.compLoop e dep it acc env)))
theorem ct1 (elt tg iter:Expr) (scope:Scope) (pos:Pos):Gv (.ListComp elt [⟨tg,iter,[],0⟩] scope pos) 0 tg iter.pos (Za elt):=λ it acc env=>by rfl
theorem ct2 (elt tg iter c:Expr) (scope:Scope) (pos:Pos):Gv (.ListComp elt [⟨tg,iter,[c],0⟩] scope pos) 0 tg iter.pos (A0e c elt):=λ it acc env=>by rfl
theorem ct3 (elt tg iter tg2 iter2:Expr) (scope:Scope) (pos:Pos):Gv (.ListComp elt [⟨tg,iter,[],0⟩,⟨tg2,iter2,[],0⟩] scope pos) 0 tg iter.pos (Ard (.ListComp elt [⟨tg,iter,[],0⟩,⟨tg2,iter2,[],0⟩] scope pos) iter2):=λ it acc env=>by rfl
theorem ct4 (elt tg iter tg2 iter2:Expr) (scope:Scope) (pos:Pos):Gv (.ListComp elt [⟨tg,iter,[],0⟩,⟨tg2,iter2,[],0⟩] scope pos) 1 tg2 iter2.pos (Za elt):=λ it acc env=>by rfl
def rvA (l:List PV):List PV->List PV:=@List.rec _ (λ Z=>List PV->List PV) (λ r=>r) (λ x Z ih r=>ih (x::r)) l
def rv (l:List PV):List PV:=rvA l []
theorem Ay9:∀ (l r:List PV),rvA l r=rv l++r
 | [],r=>rfl
 | x::l,r=>by
  show rvA l (x::r)=rvA l [x]++r
  rw [Ay9 l (x::r),Ay9 l [x],List.append_assoc];rfl
theorem Alq (x:PV) (l:List PV):rv (x::l)=rv l++[x]:=Ay9 l [x]
theorem Aza (l:List PV):(rv l).length=l.length:=by
 induction l with
 | nil=>rfl
 | cons x l ih=>rw [Alq,List.length_append,ih];rfl
def LAt (h:Heap) (L:Addr) (vs:List Value):Prop:=∃ n,h.get? L=some {cls:=.type "list",dict:=none,data:=.seq vs.toArray n,slots:=#[]}
structure Wl (J:Aj) (h:Heap) (L:Addr) (acc:List PV) (b:Nat):Prop where
 hid:L∈J.η
 room:acc.length+b≤Bv
 at_:∃ vs,LAt h L vs/\RepL J h (rv acc) vs
section
variable {B:Aq} {own:Addr->Prop} {J J':Aj} {σ σ':PS} {s s':Shared} {L:Addr} {acc:List PV} {b:Nat}
theorem Wl.up (a:Wl J s.heap L acc b) (st:St B J σ s.heap) (x:Nx B own J s J' σ' s') (hn:¬ own L):Wl J' s'.heap L acc b:=
 ⟨x.g.eta.symm▸a.hid,a.room,a.at_.elim λ vs q=>⟨vs,q.1.elim λ n e=>⟨n,x.g.keep _ _ e (st.hid L a.hid).1 hn⟩,x.upL q.2⟩⟩
theorem Wl.ok (a:Wl J s.heap L acc b):A0 (is1 L) J s.heap:=λ c q=>a.at_.elim λ vs r=>r.1.elim λ n e=>q▸⟨_,e,.inr (.inr (.inr ⟨rfl,a.hid⟩))⟩
theorem Nx.app {h':Heap} {tk:Nat} {vs:List Value} (st:St B J σ s.heap) (a:Wl J s.heap L acc b) (hs:Heap.SameBut L s.heap h') (hl:LAt h' L vs):Nx B (is1 L) J s J σ {s with heap:=h',toks:=tk}:=by
 have hL:=(st.hid L a.hid).1
 have g:Ch (is1 L) J J s.heap h':=Yh hs (hl.elim λ n e=>⟨_,e⟩)
 refine ⟨g,⟨rfl,rfl⟩,⟨λ b o e=>g.keep b o (st.base b o e) (λ q=>nomatch e.symm.trans (st.fresh b (.inl q))) λ q=>(nomatch e.symm.trans (st.fresh b (.inr (q▸a.hid)))),st.fresh,st.low,st.nodup,st.len,λ i c ei=>?_,λ c q=>?_⟩,st.idOk,a.ok⟩
 ·obtain ⟨o,e,r⟩:=st.objs i c ei
  exact ⟨o,(hs.2 c λ q=>hL (q▸List.mem_iff_getElem?.mpr ⟨i,ei⟩)).trans e,r.grow0 g.toGrow0 a.ok st.idOk⟩
 ·obtain ⟨n,o,e,r⟩:=st.hid c q
  refine ⟨n,(Classical.em (c=L)).elim (λ q=>q▸hl.elim λ n e=>⟨_,e,rfl⟩) λ q=>⟨o,(hs.2 c q).trans e,r⟩⟩
theorem Amf {A:Around} {p:PV} {v:Value} {Q:Value->Shared->Prop} {E:Value->Shared->Prop} (st:St B J σ s.heap) (a:Wl J s.heap L acc (b+1)) (r:Ae J s.heap p v)
  (h:∀ s',Nx B (is1 L) J s J σ s'->Wl J s'.heap L (p::acc) b->Q .none s'):wpAny (model B.prog B.w) A (call (.builtin "list.append") [.ref L,v]) Q E s:=by
 obtain ⟨vs,⟨n,e⟩,rl⟩:=a.at_
 refine wpAny_list_append_plain (items:=vs.toArray) ⟨n,e⟩ (λ h' hg hs=>?_) ?_
 ·obtain ⟨m,hg⟩:=hg
  have hl:LAt h' L (vs++[v]):=⟨m,by rw [hg];simp⟩
  have y:=Nx.app (tk:=s.toks) st a hs hl
  exact h _ y ⟨a.hid,Nat.le_trans (Nat.le_of_eq (Nat.succ_add_eq_add_succ _ _)) a.room,vs++[v],hl,Alq p acc▸(y.upL rl).append (Bd (y.up r) Cx)⟩
 ·rw [List.size_toArray,rl.length,Aza]
  exact Nat.le_trans (Nat.le_trans (Nat.le_add_right _ _) a.room) B0
end
abbrev CF:=Ax->List PV->Nat->PS->(Ax->List PV->Nat->PS->Bool)->Bool
def Ai1 (env:Env) (L:Addr):Addr->Prop:=Kb (Mr env) (is1 L)
def CB (B:Aq) (d:Nat) (ks:List (Str×NameKind)) (xs:List Str) (turn:Value->Env->Sem Fin->Sem Fin) (g:CF):Prop:=
 ∀ (A:Around) (s:Shared) (env:Env) (ρ:Ax) (J:Aj) (σ:PS) (L:Addr) (acc:List PV) (b:Nat) (κ:Ax->List PV->Nat->PS->Bool) (k:Sem Fin) (Q:Fin->Shared->Prop) (E:Value->Shared->Prop),Cc A d->As ks xs env ρ J s.heap->St B J σ s.heap ->
  (∀ b,Mr env b->B.h₀.get? b=none)->Wl J s.heap L acc b->g ρ acc b σ κ=true ->
  (∀ s' J' ρ' acc' b' σ',κ ρ' acc' b' σ'=true->Nx B (Ai1 env L) J s J' σ' s'->As ks xs env ρ' J' s'.heap->Wl J' s'.heap L acc' b'->wpAny (model B.prog B.w) A k Q E s')->wpAny (model B.prog B.w) A (turn (.ref L) env k) Q E s
section
variable {B:Aq} {d:Nat} {ks:List (Str×NameKind)} {xs:List Str}
theorem As.okC {env:Env} {ρ:Ax} {J:Aj} {s:Shared} {L:Addr} {acc:List PV} {b:Nat} (x:As ks xs env ρ J s.heap) (a:Wl J s.heap L acc b):A0 (Ai1 env L) J s.heap:=λ c q=>q.elim (x.okL c) (a.ok c)
theorem As.nL {env:Env} {ρ:Ax} {J:Aj} {s:Shared} {L:Addr} {acc:List PV} {b:Nat} (x:As ks xs env ρ J s.heap) (a:Wl J s.heap L acc b):∀ c,Ck env c->¬ is1 L c:=λ c q e=>(x.ownDead q).1 (.inr (e▸a.hid))
theorem Nx.c {J J':Aj} {σ':PS} {s s':Shared} {env:Env} {ρ:Ax} {L:Addr} {acc:List PV} {b:Nat} (x:Nx B Ao J s J' σ' s') (hE:As ks xs env ρ J s.heap) (a:Wl J s.heap L acc b):Nx B (Ai1 env L) J s J' σ' s':=x.e (hE.okC a)
def Be (f:EF):CF:=λ ρ acc b σ k=>f ρ σ λ p σ=>@Nat.rec (λ Z=>Bool) false (λ b Z=>k ρ (p::acc) b σ) b
theorem Ac9 {elt:Expr} {f:EF} (hf:SE B d ks xs elt f):CB B d ks xs (Za elt) (Be f):=λ A s env ρ J σ L acc b κ k Q E hR hE st hO a e h=>by
 unfold Za
 refine zza (zza (hf A s env ρ J σ hR hE st _ _ E e λ v s1 J1 p σ1 e x1 r1=>zza ?_))
 have a1:=a.up st x1 (λ q=>q)
 have hE1:=hE.up x1
 cases b with
 | zero=>exact ff e
 | succ b=>exact Amf x1.st a1 r1 λ s2 x2 a2=>zzb (h s2 J1 ρ (p::acc) b σ1 e ((x1.c hE a).trans (x2.w (λ Z q=>.inr q) (hE1.okC a1))) (hE1.but x2.g.toGrow0 x2.ok x2.id (hE1.nL a1)) a2)
def cIf (t:Wm) (g:CF):CF:=λ ρ acc b σ k=>t ρ σ λ c σ=>bC (k ρ acc b σ) (g ρ acc b σ k) c
theorem A04 {c elt:Expr} {t:Wm} {f:EF} (ht:ST B d ks xs c t) (hf:SE B d ks xs elt f):CB B d ks xs (A0e c elt) (cIf t (Be f)):=λ A s env ρ J σ L acc b κ k Q E hR hE st hO a e h=>by
 unfold A0e
 refine zza (wpAny_tests_one (ht A s env ρ J σ hR hE st _ _ E e λ v s1 J1 σ1 e x1=>?_))
 have a1:=a.up st x1 (λ q=>q)
 cases v with
 | true=>
  rw [if_pos rfl]
  exact Ac9 hf A s1 env ρ J1 σ1 L acc b κ k Q E hR (hE.up x1) x1.st hO a1 e λ s2 J2 ρ2 acc2 b2 σ2 e x2 hE2 a2=>h s2 J2 ρ2 acc2 b2 σ2 e ((x1.c hE a).trans x2) hE2 a2
 | false=>
  rw [if_neg Bool.false_ne_true]
  exact h s1 J1 ρ acc b σ1 e (x1.c hE a) (hE.up x1) a1
def Bl (t:TF) (g:CF) (n:Nat) (i:It):CF:=λ ρ acc b σ k=>@Nat.rec (λ Z=>It->Ax->List PV->Nat->PS->Bool) (λ Z Z Z Z Z=>false) (λ Z ih i ρ acc b σ=>G7 i σ (k ρ acc b σ) λ x i'=>t x ρ σ λ ρ σ=>g ρ acc b σ λ ρ acc b σ=>ih i' ρ acc b σ) n i ρ acc b σ
theorem Abo {e:Expr} {dep:Nat} {tg:Expr} {p:Pos} {turn:Value->Env->Sem Fin->Sem Fin} {t:TF} {g:CF} (hT:Gv e dep tg p turn) (hF:∀ it acc env,(Code.compLoop e dep it acc env).isFrame=false)
  (hq:∀ it acc env,(Code.compLoop e dep it acc env).quiet=true) (hU:∀ (A:Around) it acc env,A.under (Code.compLoop e dep it acc env)=A) (ht:SA Mr B d ks xs tg t) (hb:CB B d ks xs turn g)
  {A:Around} {s:Shared} {env:Env} {ρ:Ax} {J:Aj} {σ:PS} {I:Addr} {own:Addr->Prop} {R:It->Aj->Heap->Prop} {i:It} {L:Addr} {acc:List PV} {b n:Nat} {κ:Ax->List PV->Nat->PS->Bool} {R':Result->Shared->Prop}
  (hR:Cc A d) (hE:As ks xs env ρ J s.heap) (hS:St B J σ s.heap) (hO:∀ b,Mr env b->B.h₀.get? b=none) (P:ItP B A tg I own R) (r:R i J s.heap) (hno:∀ b,Ck env b->¬ own b) (hnL:¬ own L) (a:Wl J s.heap L acc b)
  (e0:Bl t g n i ρ acc b σ κ=true)
  (h:∀ s1 s' J' ρ' acc' b' σ',κ ρ' acc' b' σ'=true->Nx B (Kb own (Ai1 env L)) J s J' σ' s1->Grow0 own J' J' s1.heap s'.heap->Sm s1 s'->St B J' σ' s'.heap->As ks xs env ρ' J' s'.heap->Wl J' s'.heap L acc' b'->R' (.ok .next) s'):
  codeAny (model B.prog B.w) A (.compLoop e dep (.ref I) (.ref L) env) R' s:=by
 have okW:∀ {J2:Aj} {s2:Shared} {ρ2:Ax} {acc2:List PV} {b2:Nat} {i2:It},As ks xs env ρ2 J2 s2.heap->Wl J2 s2.heap L acc2 b2->R i2 J2 s2.heap->A0 (Kb own (Ai1 env L)) J2 s2.heap:=λ hE2 a2 r2 c q=>q.elim (P.ok _ _ _ r2 c) (hE2.okC a2 c)
 refine codeAny_loop (hq _ _ _) (λ k s2=>∃ ρ2 J2 σ2 i2 acc2 b2,As ks xs env ρ2 J2 s2.heap/\Bl t g k i2 ρ2 acc2 b2 σ2 κ=true/\Nx B (Kb own (Ai1 env L)) J s J2 σ2 s2/\R i2 J2 s2.heap/\Wl J2 s2.heap L acc2 b2) ?_ n
  ⟨ρ,J,σ,i,acc,b,hE,e0,.refl hS (okW hE a r),r,a⟩
 rintro k s2 ⟨ρ2,J2,σ2,i2,acc2,b2,hE2,e2,x2,r2,a2⟩
 rw [hU]
 show wpAny _ A (if (Code.compLoop e dep (.ref I) (.ref L) env).isFrame then _ else (compTurn e dep (.ref I) (.ref L) env).onRaise (λ x=>do noteFrame x env;theTreesLotGoes x)) _ _ _
 rw [hF,if_neg Bool.false_ne_true]
 refine wpAny_noted ?_
 rw [hT]
 refine zza (wpAny_standAt (zza ?_))
 cases k with
 | zero=>exact ff e2
 | succ k=>
  refine P.step s2 J2 σ2 i2 (κ ρ2 acc2 b2 σ2) (λ x i'=>t x ρ2 σ2 λ ρ σ=>g ρ acc2 b2 σ λ ρ acc b σ=>Bl t g k i' ρ acc b σ κ) _ _ _ r2 x2.st e2 (λ e s3 g3 m3 st3=>zzb ?_) (λ v s3 h=>zza h) λ v s3 x i' e x3 rv r3=>zza ?_
  ·refine h s2 s3 J2 ρ2 acc2 b2 σ2 e x2 g3 m3 st3 (hE2.but g3 (P.ok _ _ _ r2) x2.st.idOk hno) ⟨a2.hid,a2.room,a2.at_.elim λ vs q=>⟨vs,q.1.elim λ n e=>⟨n,g3.keep _ _ e (x2.st.hid L a2.hid).1 hnL⟩,Sx g3 (P.ok _ _ _ r2) x2.st.idOk _ _ q.2⟩⟩
  ·have hE3:=hE2.but x3.g.toGrow0 x3.ok x3.id hno
   have a3:=a2.up x2.st x3 hnL
   refine ht A s3 env ρ2 J2 σ2 x v hR hE3 x3.st hO rv _ _ _ e λ s4 J4 ρ4 σ4 e x4 hE4=>?_
   have a4:=a3.up x3.st x4 λ q=>hE3.nL a3 _ (Ik env _ q) rfl
   have r4:=P.stable i' J2 J4 _ _ _ r3 x4.g.toGrow0.mv (λ c q=>hno c (Ik env c q)) x4.ok x4.id
   refine hb A s4 env ρ4 J4 σ4 L acc2 b2 _ _ _ _ hR hE4 x4.st hO a4 e λ s5 J5 ρ5 acc5 b5 σ5 e x5 hE5 a5=>?_
   refine zzb ⟨rfl,k,Nat.lt_succ_self _,ρ5,J5,σ5,i',acc5,b5,hE5,e,?_,P.stable i' J4 J5 _ _ _ r4 x5.g.toGrow0.mv (λ c q=>q.elim (λ q=>hno c (Ik env c q)) λ q=>q▸hnL) x5.ok x5.id,a5⟩
   exact x2.trans ((x3.w (λ Z q=>.inl q) (okW hE2 a2 r2)).trans ((x4.w (λ Z q=>.inr (.inl q)) (okW hE3 a3 r3)).trans (x5.w (λ Z q=>.inr q) (okW hE4 a4 r4))))
end
end
section
section
variable {prog:Program} {w:World} {A:Around} {R:Result->Shared->Prop} {s:Shared}
theorem Aie {elt tg1 it1 tg2 it2 scope pos it acc env}
  (h0:codeAny (model prog w) A (.compLoop (.ListComp elt [⟨tg1,it1,[],0⟩,⟨tg2,it2,[],0⟩] scope pos) 1 it acc env) R s)
  (h:wpAny (model prog w) A (pyIter it) (λ it' s'=>codeAny (model prog w) A (.compLoop (.ListComp elt [⟨tg1,it1,[],0⟩,⟨tg2,it2,[],0⟩] scope pos) 1 it' acc env) R s')
   (notedBy (model prog w) A env λ x s'=>R (.error x) s') s):
  codeAny (model prog w) A (.compStart (.ListComp elt [⟨tg1,it1,[],0⟩,⟨tg2,it2,[],0⟩] scope pos) 1 it acc env) R s:=by
 refine codeAny_of_tree ?_
 show wpAny _ _ ((compStart (.ListComp elt [⟨tg1,it1,[],0⟩,⟨tg2,it2,[],0⟩] scope pos) 1 it acc env).onRaise (λ x=>do noteFrame x env;standAt theWindowsPlace)) _ _ s
 refine wpAny_notedAt ?_
 unfold compStart
 show wpAny _ _ (ask >>= _) _ _ s
 refine zza (wpAny_askSetting (wpAny_ite ?_))
 split
 ·first
   | exact zza (zzb (zzb (And.intro rfl h0)))
   | exact zzb (And.intro rfl h0)
 ·first
   | exact zza (wpAny_rule (zza (wpAny_standAt (zza (wpAny_mono h (λ it' s' h'=>zzb (And.intro rfl h')) λ Z Z x=>x)))))
   | (refine zza (wpAny_rule ?_);show wpAny _ _ (standAt it2.pos >>= _) _ _ s;exact zza (wpAny_standAt (zza (wpAny_mono h (λ it' s' h'=>zzb (And.intro rfl h')) λ Z Z x=>x))))
end
section
variable {B:Aq} {d:Nat} {ks:List (Str×NameKind)} {xs:List Str}
def Tk (n:Nat) (fi:IF) (t:TF) (g:CF):CF:=λ ρ acc b σ k=>fi ρ σ λ i σ=>Bl t g n i ρ acc b σ k
theorem Axx {elt tg1 it1 tg2 it2:Expr} {scope:Scope} {pos:Pos} {fi:IF} {t:TF} {f:EF} (n:Nat) (hi:SI B d ks xs tg2 it2 fi) (ht:SA Mr B d ks xs tg2 t) (hf:SE B d ks xs elt f)
  (hs:∀ (env:Env) x,foldedSetIterable it2 env x=pure x):CB B d ks xs (Ard (.ListComp elt [⟨tg1,it1,[],0⟩,⟨tg2,it2,[],0⟩] scope pos) it2) (Tk n fi t (Be f)):=λ A s env ρ J σ L acc b κ k Q E hR hE st hO a e h=>by
 unfold Ard
 refine zza (wpAny_mono (hi A s env ρ J σ hR hE st _ (λ it s2=>wpAny (model B.prog B.w) A (runOwn (.compStart (.ListComp elt [⟨tg1,it1,[],0⟩,⟨tg2,it2,[],0⟩] scope pos) 1 it (.ref L) env) env >>= λ Z=>k) Q E s2) E e λ I s1 J1 own R i σ1 e x1 P r1 hown=>?_) (λ x s1 h1=>?_) λ Z Z h=>h)
 ·have hno:∀ b,Ck env b->¬ own b:=λ b q q'=>(hE.ownDead q).2.elim λ o eo=>nomatch (hown b q').symm.trans eo
  have hnL:¬ own L:=λ q=>a.at_.elim λ vs r=>r.1.elim λ n e=>nomatch (hown L q).symm.trans e
  have hE1:=hE.up x1
  have a1:=a.up st x1 (λ q=>q)
  refine zza (wpAny_runOwn ?_)
  rw [show A.mark none=A by cases A;simp [Around.mark]]
  have loop:codeAny (model B.prog B.w) A (.compLoop (.ListComp elt [⟨tg1,it1,[],0⟩,⟨tg2,it2,[],0⟩] scope pos) 1 (.ref I) (.ref L) env) (λ r s'=>match r with|.ok f=>wpAny (model B.prog B.w) A k Q E s'|.error e=>cameBackBy (model B.prog B.w) A env E e s') s1:=
   Abo (ct4 elt tg1 it1 tg2 it2 scope pos) (λ Z Z Z=>rfl) (λ Z Z Z=>rfl) (λ A Z Z Z=>rfl) ht (Ac9 hf) hR hE1 x1.st hO P r1 hno hnL a1 e λ s2 s3 J2 ρ2 acc2 b2 σ2 e x2 g3 m3 st3 hE3 a3=>
    h s3 J2 ρ2 acc2 b2 σ2 e (x1.absorb x2 g3 m3 st3 hown (λ x o q Z=>q.elim (λ q=>Aj.nl (hE.ownDead (Ik env x q)).1) λ q=>q▸(st.hid L a.hid).1) (hE.okC a)) hE3 a3
  exact Aie loop (P.self s1 J1 i _ _ r1 loop)
 ·exact zza (wpAny_standAt (zza (wpAny_of_eq (hs env x) (zza (zzg h1)))))
end
def Ayz (ρ:Ax) (js:List Nat):Ax:=@List.rec _ (λ Z=>Ax) [] (λ j Z ih=>Dg ρ j::ih) js
def frm (m:Nat) (r:Ax):Ax:=@Nat.rec (λ Z=>Ax) r (λ Z ih=>none::ih) m
def Sw (ks:List (Str×NameKind)) (names:List (Str×NameKind)):List (Str×NameKind):=names.map λ x=>if (x.2==NameKind.free&&ks.lookup x.1==some .cell)=true then (x.1,NameKind.cell) else (x.1,x.2)
def F3 (cells:List (Str×Addr)):List (Str×NameKind)->List (Str×Addr)->List (Str×Addr)
 | [],acc=>acc
 | (n,k)::r,acc=>if (k==NameKind.free)=true then F3 cells r ((n,(cells.lookup n).getD 0)::acc) else F3 cells r acc
theorem Aan {scope:Scope} {env:Env} (h:∀ x∈scope.names,x.2=.free->∃ c,env.cells.lookup x.1=some c):closureFor scope env=pure (F3 env.cells scope.names []):=by
 simp only [closureFor]
 generalize scope.names=names at h
 have:∀ (names:List (Str×NameKind)) (acc:List (Str×Addr)),(∀ x∈names,x.2=.free->∃ c,env.cells.lookup x.1=some c) ->
   (forIn names acc λ x (r:List (Str×Addr))=>if (x.2==NameKind.free)=true then do
      let a<-cellOf env x.1
      pure (ForInStep.yield ((x.1,a)::r))
     else pure (ForInStep.yield r))=(pure (F3 env.cells names acc):Sem _):=by
  intro names
  induction names with
  | nil=>intro acc _;rfl
  | cons x r ih=>
   intro acc hx
   obtain ⟨n,k⟩:=x
   rw [List.forIn_cons]
   dsimp only
   by_cases hk:(k==NameKind.free)=true
   ·obtain ⟨c,hc⟩:=hx (n,k) List.mem_cons_self (by simpa using hk)
    rw [if_pos hk,F3,if_pos hk]
    have:cellOf env n=pure c:=by unfold cellOf;rw [hc]
    rw [this,hc]
    exact ih _ λ y hy=>hx y (zze _ hy)
   ·rw [if_neg hk,F3,if_neg hk]
    exact ih _ λ y hy=>hx y (zze _ hy)
 have e:=this names [] h
 rw [e]
 rfl
theorem Ry {cells:List (Str×Addr)}:∀ (names:List (Str×NameKind)) (acc:List (Str×Addr)) (n:Str) (c:Addr),(∀ x∈names,x.2=.free->∃ c,cells.lookup x.1=some c)->(n,c)∈F3 cells names acc->(n,c)∈acc\/(cells.lookup n=some c/\(n,NameKind.free)∈names)
 | [],acc,n,c,_,h=>.inl h
 | (y,k)::r,acc,n,c,hx,h=>by
  unfold F3 at h
  split at h
  ·rename_i hk
   have hk:k=.free:=by simpa using hk
   subst hk
   rcases Ry r _ n c (λ x hx'=>hx x (zze _ hx')) h with h|⟨h1,h2⟩
   ·rcases List.mem_cons.mp h with h|h
    ·cases h
     obtain ⟨c',hc'⟩:=hx (y,.free) zzf rfl
     refine .inr ⟨?_,zzf⟩
     dsimp only at hc'
     rw [hc'];rfl
    ·exact .inl h
   ·exact .inr ⟨h1,zze _ h2⟩
  ·rcases Ry r _ n c (λ x hx'=>hx x (zze _ hx')) h with h|⟨h1,h2⟩
   ·exact .inl h
   ·exact .inr ⟨h1,zze _ h2⟩
theorem X8 {cells:List (Str×Addr)}:∀ (names:List (Str×NameKind)) (acc:List (Str×Addr)) (x:Str×Addr),x∈acc->x∈F3 cells names acc
 | [],acc,x,h=>h
 | (y,k)::r,acc,x,h=>by
  unfold F3
  split
  ·exact X8 r _ x (zze _ h)
  ·exact X8 r _ x h
theorem X9 {cells:List (Str×Addr)}:∀ (names:List (Str×NameKind)) (acc:List (Str×Addr)) (n:Str),(n,NameKind.free)∈names->∃ c,(n,c)∈F3 cells names acc
 | (y,k)::r,acc,n,h=>by
  unfold F3
  rcases List.mem_cons.mp h with h|h
  ·cases h
   rw [if_pos (by decide)]
   exact ⟨_,X8 r _ _ zzf⟩
  ·split
   ·exact X9 r _ n h
   ·exact X9 r _ n h
theorem Qh {cells:List (Str×Addr)}:∀ (names:List (Str×NameKind)) (acc:List (Str×Addr)),(∀ x∈names.map (·.1),x∉acc.map (·.1))->(acc.map (·.1)).Nodup->(names.map (·.1)).Nodup->((F3 cells names acc).map (·.1)).Nodup
 | [],_,_,h,_=>h
 | (y,k)::r,acc,hd,ha,hn=>by
  rw [List.map_cons,List.nodup_cons] at hn
  unfold F3
  split
  ·refine Qh r _ (λ x hx q=>?_) ?_ hn.2
   ·rcases List.mem_cons.mp q with q|q
    ·exact hn.1 (by have q':x=y:=q;rw [<- q'];exact hx)
    ·exact hd x (zze _ hx) q
   ·rw [List.map_cons,List.nodup_cons]
    exact ⟨hd y zzf,ha⟩
  ·exact Qh r acc (λ x hx=>hd x (zze _ hx)) ha hn.2
theorem Agp {cl cells:List (Str×Addr)} (hn:(cl.map (·.1)).Nodup) (hs:∀ x∈cl,x∈cells) (ha:cells.Pairwise λ x y=>x.2≠y.2):cl.Pairwise λ x y=>x.2≠y.2:=by
 induction cl with
 | nil=>exact .nil
 | cons x r ih=>
  rw [List.map_cons,List.nodup_cons] at hn
  refine .cons (λ y hy e=>?_) (ih hn.2 λ z hz=>hs z (zze _ hz))
  obtain ⟨x1,x2⟩:=x
  obtain ⟨y1,y2⟩:=y
  dsimp only at e
  subst e
  have:=name_of_addr ha (hs _ zzf) (hs _ (zze _ hy))
  subst this
  exact hn.1 (List.mem_map.mpr ⟨_,hy,rfl⟩)
def Yf (ks ks':List (Str×NameKind)) (xs:List Str):List Nat->List Str->Bool
 | [],[]=>true
 | j::js,y::ys=>(xs[j]?==some y)&&(ks.lookup y==some .cell)&&(ks'.lookup y==some .cell)&&Yf ks ks' xs js ys
 | _,_=>false
theorem To {ks ks':List (Str×NameKind)} {xs:List Str}:∀ {js:List Nat} {ys:List Str},Yf ks ks' xs js ys=true->∀ (t:Nat) (y:Str),ys[t]?=some y->∃ j,js[t]?=some j/\xs[j]?=some y/\ks.lookup y=some .cell/\ks'.lookup y=some .cell
 | [],[],_,t,y,h=>by simp at h
 | [],_::_,h,_,_,_=>by cases h
 | _::_,[],h,_,_,_=>by cases h
 | j::js,z::ys,h,t,y,e=>by
  simp only [Yf,Bool.and_eq_true,beq_iff_eq] at h
  cases t with
  | zero=>
   simp only [List.getElem?_cons_zero,Option.some.injEq] at e
   subst e
   exact ⟨j,rfl,h.1.1.1,h.1.1.2,h.1.2⟩
  | succ t=>exact To h.2 t y (by simpa using e)
theorem Ao0 (m:Nat) (r:Ax) (i:Nat):Dg (frm m r) (m+i)=Dg r i:=by
 induction m with
 | zero=>rw [Nat.zero_add];rfl
 | succ m ih=>
  have:m+1+i=(m+i)+1:=by omega
  rw [this]
  exact ih
theorem Afw (m:Nat) (r:Ax) (i:Nat) (h:i<m):Dg (frm m r) i=none:=by
 induction m generalizing i with
 | zero=>omega
 | succ m ih=>
  cases i with
  | zero=>rfl
  | succ i=>exact ih i (by omega)
theorem Abt (ρ:Ax):∀ (js:List Nat) (t j:Nat),js[t]?=some j->Dg (Ayz ρ js) t=Dg ρ j
 | [],t,j,h=>by simp at h
 | i::js,0,j,h=>by simp only [List.getElem?_cons_zero,Option.some.injEq] at h;subst h;rfl
 | i::js,t+1,j,h=>Abt ρ js t j (by simpa using h)
structure P4 (ks ks':List (Str×NameKind)) (xs xs':List Str) (scope:Scope) (m:Nat) (js:List Nat):Prop where
 kind:scope.kind=.function
 names:Sw ks scope.names=ks'
 free:∀ x∈scope.names,x.2=.free->ks.lookup x.1=some .cell/\x.1∈xs
 cell:∀ x∈scope.names,x.2≠.cell
 nodup:(scope.names.map (·.1)).Nodup
 fx:Yf ks ks' xs js (xs'.drop m)=true
 tgs:∀ x∈xs'.take m,ks'.lookup x=some .local
 nd:xs'.Nodup
section
variable {B:Aq} {d:Nat} {ks ks':List (Str×NameKind)} {xs xs':List Str}
theorem Sl {α:Type}:∀ {l:List (Str×α)} {x:Str×α},(l.map (·.1)).Nodup->x∈l->l.lookup x.1=some x.2
 | (y,k)::r,x,hn,h=>by
  rw [List.map_cons,List.nodup_cons] at hn
  rw [List.lookup_cons]
  rcases List.mem_cons.mp h with h|h
  ·subst h;simp
  ·have:(x.1==y)=false:=by
    rw [beq_eq_false_iff_ne]
    intro e
    exact hn.1 (List.mem_map.mpr ⟨x,h,e⟩)
   rw [this]
   exact Sl hn.2 h
theorem X6 {env:Env} {ρ:Ax} {J:Aj} {h:Heap} {scope:Scope} {m:Nat} {js:List Nat} (hE:As ks xs env ρ J h) (C:P4 ks ks' xs xs' scope m js):∀ x∈scope.names,x.2=.free->∃ c,env.cells.lookup x.1=some c:=λ x hx hf=>by
 obtain ⟨h1,h2⟩:=C.free x hx hf
 obtain ⟨i,hi⟩:=List.mem_iff_getElem?.mp h2
 obtain ⟨c,v,a,_⟩:=hE.cell i x.1 hi (.inl h1)
 exact ⟨c,a⟩
theorem Aih {env:Env} {ρ:Ax} {J:Aj} {h h':Heap} {scope:Scope} {m:Nat} {js:List Nat} {cd:Addr} (hE:As ks xs env ρ J h) (C:P4 ks ks' xs xs' scope m js) (hc:h.get? cd=none) (hn:¬ J.has cd) (hns:h'.Ns cd (λ Z=>none))
  (hk:∀ b o,h.get? b=some o->h'.get? b=some o) (hi:Do J h):
  As ks' xs' (compEnvC scope (F3 env.cells scope.names []) cd env) (frm m (Ayz ρ js)) J h':=by
 have hcells:=X6 hE C
 have memCl:∀ n c,(n,c)∈F3 env.cells scope.names []->env.cells.lookup n=some c:=λ n c q=>by
  rcases Ry _ _ _ _ hcells q with q|q
  ·cases q
  ·exact q.1
 have inCl:∀ n c,(n,c)∈F3 env.cells scope.names []->(n,c)∈env.cells:=λ n c q=>mem_of_lookup (memCl n c q)
 have hnodup:((F3 env.cells scope.names []).map (·.1)).Nodup:=Qh _ _ (λ Z Z q=>by cases q) List.nodup_nil C.nodup
 have hrel:(relabel scope env).names=ks':=by
  rw [<- C.names]
  show scope.names.map _=scope.names.map _
  refine List.map_congr_left λ x hx=>?_
  obtain ⟨n,k⟩:=x
  dsimp only
  have hkd:env.kindOf n=ks.lookup n:=by unfold Env.kindOf;rw [hE.names]
  rw [hkd,hE.kind]
  simp
 refine ⟨C.kind,hrel,hE.globals,hE.builtins,hE.code,hn,λ x c q=>?_,⟨_,hns,λ i x ex lx p hp=>?_⟩,λ i x ex lx=>?_,λ x c q=>?_,?_,C.nd⟩
 ·have q':=inCl x c q
  clear q
  refine ⟨(hE.cellsNot x c q').1,λ e=>?_⟩
  have e:c=cd:=e
  subst e
  obtain ⟨v,o,ho,_⟩:=hE.cellIs x c q'
  rw [hc] at ho;cases ho
 ·by_cases hm:i<m
  ·rw [Afw _ _ _ hm] at hp;cases hp
  ·exfalso
   have e:xs'[i]?=(xs'.drop m)[i - m]?:=by rw [List.getElem?_drop];congr 1;omega
   rw [e] at ex
   obtain ⟨j,_,_,_,h4⟩:=To C.fx _ _ ex
   rw [h4] at lx;cases lx
 ·by_cases hm:i<m
  ·exfalso
   have hx:x∈xs'.take m:=by
    rw [List.mem_iff_getElem?]
    exact ⟨i,by rw [List.getElem?_take,if_pos hm];exact ex⟩
   have:=C.tgs x hx
   rw [this] at lx;rcases lx with lx|lx<;>cases lx
  ·have e:xs'[i]?=(xs'.drop m)[i - m]?:=by rw [List.getElem?_drop];congr 1;omega
   rw [e] at ex
   obtain ⟨j,h1,h2,h3,h4⟩:=To C.fx _ _ ex
   obtain ⟨c,v,hc1,hv,hr⟩:=hE.cell j x h2 (.inl h3)
   have hfree:(x,NameKind.free)∈scope.names:=by
    have h5:=mem_of_lookup h4
    rw [<- C.names] at h5
    obtain ⟨y,hy,ey⟩:=List.mem_map.mp h5
    split at ey
    ·rename_i hb
     simp only [Bool.and_eq_true,beq_iff_eq] at hb
     cases ey
     obtain ⟨y1,y2⟩:=y
     dsimp only at hb
     rw [<- hb.1];exact hy
    ·exact absurd (congrArg Prod.snd ey) (C.cell y hy)
   obtain ⟨c',hc'⟩:=X9 (cells:=env.cells) scope.names [] x hfree
   have hcc:=memCl x c' hc'
   rw [hc1] at hcc;cases (hcc)
   refine ⟨c,v,lookup_of_mem_nodup hnodup hc',?_,?_⟩
   ·obtain ⟨o,ho,r⟩:=hv
    exact ⟨o,hk _ _ ho,r⟩
   ·have hi':i=m+(i - m):=by omega
    rw [hi',Ao0,Abt ρ js _ j h1]
    intro p hp
    obtain ⟨u,e1,e2⟩:=hr p hp
    exact ⟨u,e1,Im (Ch.keepAll (own:=Ao) hk).toGrow0 (Ab _ _) hi _ _ e2⟩
 ·obtain ⟨v,o,ho,r⟩:=hE.cellIs x c (inCl x c q)
  exact ⟨v,o,hk _ _ ho,r⟩
 ·exact Agp hnodup (λ x hx=>inCl x.1 x.2 hx) hE.apart
end
end
section
structure CGr (J J':Aj) (h h':Heap) (L:Addr):Prop where
 pre:J.l <+: J'.l
 keep:∀ b o,h.get? b=some o->b∉J.l->h'.get? b=some o
 new:∀ a∈J'.l,a∈J.l\/h.get? a=none
 eta:J'.η=L::J.η
 nL:h.get? L=none
def Aj.hide (J:Aj) (L:Addr):Aj:=⟨J.l,L::J.η⟩
section
variable {B:Aq} {own:Addr->Prop} {J J':Aj} {σ σ':PS} {s s':Shared} {L:Addr} {acc:List PV} {b:Nat}
theorem Adt {h h':Heap} (hn:h.get? L=none) (hk:∀ b o,h.get? b=some o->h'.get? b=some o):Mv Ao J (J.hide L) h h':=
 ⟨List.prefix_refl _,λ b o e Z Z=>hk b o e,λ a o e n q=>q.elim (λ q=>n (.inl q)) λ q=>(List.mem_cons.mp q).elim (λ q=>nomatch (q▸hn).symm.trans e) λ q=>n (.inr q)⟩
theorem Af1 {C:Addr->Prop} (h:∀ a,J.has a->C a) (hx:C L):∀ a,(J.hide L).has a->C a:=λ a q=>q.elim (λ q=>h a (.inl q)) λ q=>(List.mem_cons.mp q).elim (λ q=>q▸hx) λ q=>h a (.inr q)
theorem St.hide {h h':Heap} {o:Obj} (st:St B J σ h) (hn:h.get? L=none) (hk:∀ b o,h.get? b=some o->h'.get? b=some o) (hl:(L==sysModules)=false) (ho:h'.get? L=some o) (hc:o.cls=.type "list"):St B (J.hide L) σ h' where
 base:=λ b o e=>hk b o (st.base b o e)
 fresh:=Af1 st.fresh (by
  cases e:B.h₀.get? L with
  | none=>rfl
  | some o'=>exact nomatch hn.symm.trans (st.base _ _ e))
 low:=Af1 st.low hl
 nodup:=st.nodup
 len:=st.len
 objs:=λ i a e=>(st.objs i a e).elim λ o r=>⟨o,hk _ _ r.1,r.2.mv (Adt hn hk) (Ab _ _) st.idOk⟩
 hid:=λ a q=>(List.mem_cons.mp q).elim (λ q=>q.symm▸(⟨λ q=>(st.live L q).elim λ o e=>(nomatch hn.symm.trans e),o,ho,hc⟩:L∉J.l/\∃ o,h'.get? L=some o/\o.cls=.type "list")) λ q=>(st.hid a q).elim λ n r=>⟨n,r.elim λ o r=>⟨o,hk _ _ r.1,r.2⟩⟩
theorem Aik {C:Addr->Prop} (x:J'.η=L::J.η) (h:∀ a,J'.has a->C a):∀ a,(Aj.mk J'.l J.η).has a->C a:=λ a q=>q.elim (λ q=>h a (.inl q)) λ q=>h a (.inr (x.symm▸zze _ q))
theorem Aw3 {h:Heap} {l:List Addr} (x:J'.η=L::J.η) (hp:J'.l <+: l) (hl:∀ a∈l,J'.has a):Mv Ao J' ⟨l,J.η⟩ h h:=
 ⟨hp,λ b o e Z Z=>e,λ a o e n q=>q.elim (λ q=>n (hl a q)) λ q=>n (.inr (x.symm▸zze _ q))⟩
theorem CGr.lst (x:CGr J J' s.heap s'.heap L) (m:Sm s s') (st:St B J' σ s'.heap) (hi:Do J s.heap) (a:Wl J' s'.heap L acc b):Nx B Ao J s ⟨J'.l,J.η⟩ σ s'/\Ae ⟨J'.l,J.η⟩ s'.heap (.lst (rv acc)) (.ref L)/\∀ a,(Aj.mk J'.l J.η).has a->J'.has a:=by
 have hL:=(st.hid L a.hid).1
 have mv:Mv Ao J' ⟨J'.l,J.η⟩ s'.heap s'.heap:=Aw3 x.eta (List.prefix_refl _) λ a q=>.inl q
 refine ⟨⟨⟨⟨x.pre,λ b o e n Z=>x.keep b o e n,x.new,rfl⟩,λ Z Z q=>q.elim⟩,m,⟨st.base,Aik x.eta st.fresh,Aik x.eta st.low,st.nodup,st.len,λ i c e=>?_,λ c q=>st.hid c (x.eta.symm▸zze _ q)⟩,hi,Ab _ _⟩,?_,Aik x.eta λ Z q=>q⟩
 ·exact (st.objs i c e).elim λ o r=>⟨o,r.1,r.2.mv mv (Ab _ _) st.idOk⟩
 ·obtain ⟨vs,⟨n,e⟩,r⟩:=a.at_
  exact Hv (λ q=>q.elim hL λ q=>(hi L (.inr q)).elim λ o e=>nomatch x.nL.symm.trans e.1) ⟨_,e,rfl,n,rfl⟩ (G0 mv (Ab _ _) st.idOk _ _ r)
theorem CGr.obj {t':TS} (x:CGr J J' s.heap s'.heap L) (m:Sm s s') (st:St B J' σ s'.heap) (hi:Do J s.heap) (a:Wl J' s'.heap L acc b) (hp:Put σ.t t' σ.n (.list (rv acc))):Nx B Ao J s ⟨J'.l++[L],J.η⟩ ⟨σ.n+1,t'⟩ s'/\Ae ⟨J'.l++[L],J.η⟩ s'.heap (.obj σ.n) (.ref L)/\∀ a,(Aj.mk (J'.l++[L]) J.η).has a->J'.has a:=by
 have hL:=(st.hid L a.hid).1
 have hl:∀ c∈J'.l++[L],J'.has c:=Hr (λ a q=>.inl q) (.inr a.hid)
 have mv:Mv Ao J' ⟨J'.l++[L],J.η⟩ s'.heap s'.heap:=Aw3 x.eta (List.prefix_append _ _) hl
 have hh:∀ {C:Addr->Prop},(∀ c,J'.has c->C c)->∀ c,(Aj.mk (J'.l++[L]) J.η).has c->C c:=λ h c q=>q.elim (λ q=>h c (hl c q)) λ q=>h c (.inr (x.eta.symm▸zze _ q))
 refine ⟨⟨⟨⟨x.pre.trans (List.prefix_append _ _),λ b o e n Z=>x.keep b o e n,Hr x.new (.inr x.nL),rfl⟩,λ Z Z q=>q.elim⟩,m,⟨st.base,hh st.fresh,hh st.low,?_,by show (J'.l++[L]).length=_;rw [List.length_append,st.len];rfl,λ i c e=>?_,λ c q=>?_⟩,hi,Ab _ _⟩,?_,hh λ Z q=>q⟩
 ·exact List.nodup_append.mpr ⟨st.nodup,List.nodup_cons.mpr ⟨zzj,List.nodup_nil⟩,λ a q b q' e=>hL (List.eq_of_mem_singleton q'▸e▸q)⟩
 ·rcases Y5 e with e|⟨rfl,rfl⟩
  ·obtain ⟨o',e',r⟩:=st.objs i c e
   exact ⟨o',e',(hp.2 i λ q=>Nat.lt_irrefl _ (st.len▸q▸(List.getElem?_eq_some_iff.mp e).1))▸r.mv mv (Ab _ _) st.idOk⟩
  ·obtain ⟨vs,⟨n,e⟩,r⟩:=a.at_
   exact ⟨_,e,by rw [st.len,hp.1];exact Nz (G0 mv (Ab _ _) st.idOk _ _ r)⟩
 ·obtain ⟨n,r⟩:=st.hid c (x.eta.symm▸zze _ q)
  exact ⟨Hr (C:=λ b=>b=c->False) (λ b q e=>n (e▸q)) (λ e=>(hi c (.inr q)).elim λ o e'=>nomatch (e▸x.nL).symm.trans e'.1) c |> λ f q=>f q rfl,r⟩
 ·exact Vi (st.len▸Ag5 L)
end
end
section
abbrev Aez:=List PV->CM PV
def Aa9 (f:Aez):Prop:=∀ {B:Aq} {J J':Aj} {σ:PS} {s s':Shared} {L:Addr} {acc:List PV} {b:Nat} {κ:PV->PS->Bool} {C:Prop},f acc σ κ=true->CGr J J' s.heap s'.heap L->Sm s s'->St B J' σ s'.heap->Do J s.heap->Wl J' s'.heap L acc b ->
 (∀ J'' p σ'',κ p σ''=true->Nx B Ao J s J'' σ'' s'->Ae J'' s'.heap p (.ref L)->(∀ a,J''.has a->J'.has a)->C)->C
def A46:Aez:=λ acc σ k=>k (.lst (rv acc)) σ
def A47:Aez:=λ acc σ k=>Am (.list (rv acc)) σ λ i σ=>k (.obj i) σ
theorem Aks:Aa9 A46:=λ {_ _ _ _ _ _ _ _ _ _ _} e x m st hi a H=>n3 (x.lst m st hi a) λ y r q=>H _ _ _ e y r q
theorem Asf:Aa9 A47:=λ {_ _ _ _ _ _ _ _ _ _ _} e x m st hi a H=>Dy e λ t' hp e=>n3 (x.obj m st hi a hp) λ y r q=>H _ _ _ e y r q
def Avo (n m:Nat) (js:List Nat) (fi:IF) (t:TF) (g:CF):Ax->CM (List PV):=λ ρ σ κ=>fi ρ σ λ i σ=>Bl t g n i (frm m (Ayz ρ js)) [] Bv σ λ Z acc Z σ=>κ acc σ
def Ako (fin:Aez) (n m:Nat) (js:List Nat) (fi:IF) (t:TF) (g:CF):EF:=λ ρ σ k=>Avo n m js fi t g ρ σ λ acc σ=>fin acc σ k
section
variable {B:Aq} {d:Nat} {ks ks':List (Str×NameKind)} {xs xs':List Str}
theorem Abn {elt tg iter:Expr} {ifs:List Expr} {rest:List Comprehension} {scope:Scope} {cpos pos p:Pos} {fi:IF} {t:TF} {g:CF} {turn:Value->Env->Sem Fin->Sem Fin} {n m:Nat} {js:List Nat}
  (hi:SI B d ks xs tg iter fi) (hT:Gv (.ListComp elt (⟨tg,iter,ifs,0⟩::rest) scope cpos) 0 tg p turn) (ht:SA Mr B d ks' xs' tg t) (hb:CB B d ks' xs' turn g) (C:P4 ks ks' xs xs' scope m js)
  (hs:∀ (env:Env) x,foldedSetIterable iter env x=pure x)
  {A:Around} {s:Shared} {env:Env} {ρ:Ax} {J:Aj} {σ:PS} {κ:List PV->PS->Bool} {use:Option (Value->Sem Unit)} {Q:Value->Shared->Prop} {E:Value->Shared->Prop} (hR:Cc A d) (hE:As ks xs env ρ J s.heap) (hS:St B J σ s.heap)
  (e:Avo n m js fi t g ρ σ κ=true)
  (hfin:∀ (cd L:Addr) s' J' acc b mm σ',κ acc σ'=true->s.heap.get? cd=none->B.h₀.get? cd=none->¬ J'.has cd->s'.heap.Ns cd mm->CGr J J' s.heap s'.heap L->Sm s s'->St B J' σ' s'.heap->Wl J' s'.heap L acc b->compPost (model B.prog B.w) A E use Q (.ref L) cd (.ok .next) s'):
  wpAny (model B.prog B.w) A (comprehension (.ListComp elt (⟨tg,iter,ifs,0⟩::rest) scope cpos) scope env pos (newList []) false (eval iter env) use) Q E s:=by
 refine wpAny_comprehension_free (cl:=F3 env.cells scope.names []) rfl (hs env) (Aan (X6 hE C)) C.kind (λ x hx hl=>(Sl C.nodup hx).trans (by rw [hl])) ?_
 refine hi A s env ρ J σ hR hE hS _ _ E e λ I s1 J1 own R i σ1 e x1 P r1 hown=>?_
 refine wpAny_newList ?_ (by show (0:Nat)≤sizeLine;exact Nat.zero_le _)
 have k1:=Aw s1.heap {cls:=.type "list",data:=.seq ([]:List Value).toArray}
 have l1:(s1.heap.push {cls:=.type "list",data:=.seq ([]:List Value).toArray}).get? s1.heap.objs.size=some {cls:=.type "list",data:=.seq ([]:List Value).toArray}:=zzd _ rfl
 have hLn:s1.heap.get? s1.heap.objs.size=none:=Heap.get?_none_of_le (Nat.le_refl _)
 have hLs:=x1.st.big
 refine wpAny_newFunctionEnv C.cell (λ x hx=>absurd hx zzj) (λ h' hns hsb=>?_) C.kind
 generalize s1.heap.push {cls:=.type "list",data:=.seq ([]:List Value).toArray}=H2 at k1 l1 hns hsb ⊢
 generalize s1.heap.objs.size=L at l1 hLn hLs ⊢
 have hns:h'.Ns H2.objs.size (λ Z=>none):=hns
 have hcd2:H2.get? H2.objs.size=none:=Sq H2
 have k2:∀ b o,H2.get? b=some o->h'.get? b=some o:=λ b o eb=>hsb.extBut b o (Nat.ne_of_lt (Heap.lt_size eb)) (zzc _ eb)
 generalize H2.objs.size=cd at hns hcd2 ⊢
 have k:∀ b o,s1.heap.get? b=some o->h'.get? b=some o:=λ b o e=>k2 b o (k1 b o e)
 have st2:St B (J1.hide L) σ1 H2:=x1.st.hide hLn k1 hLs l1 rfl
 have st3:St B (J1.hide L) σ1 h':=x1.st.hide hLn k hLs (k2 _ _ l1) rfl
 have hE2:=(hE.up x1).up0 (Adt hLn k1) (Ab _ _) x1.st.idOk (λ q=>q) λ Z Z Z q=>q
 have hEc:=Aih hE2 C hcd2 (Nw st2 hcd2) hns k2 st2.idOk
 have hcd1:s1.heap.get? cd=none:=by
  cases eb:s1.heap.get? cd with
  | none=>rfl
  | some o=>exact nomatch hcd2.symm.trans (k1 cd o eb)
 have r3:R i (J1.hide L) h':=P.stable i J1 _ _ _ Ao r1 (Adt hLn k) (λ Z q=>q.elim) (Ab _ _) x1.st.idOk
 have oAl:∀ b,own b->∃ o,s1.heap.get? b=some o:=λ b q=>(P.ok i J1 _ r1 b q).elim λ o e=>⟨o,e.1⟩
 have hno:∀ b,Ck (compEnvC scope (F3 env.cells scope.names []) cd env) b->¬ own b:=λ b q q'=>by
  rcases q with q|⟨x,q⟩
  ·have q:b=cd:=q
   exact (oAl b q').elim λ o eo=>nomatch (q▸hcd1).symm.trans eo
  ·have q2:(x,b)∈env.cells:=(Ry _ _ _ _ (X6 hE C) q).elim (λ q=>absurd q zzj) λ q=>mem_of_lookup q.1
   obtain ⟨v,o,eo,_⟩:=hE.cellIs x b q2
   exact nomatch (hown b q').symm.trans eo
 have hnL:¬ own L:=λ q=>(oAl L q).elim λ o eo=>nomatch hLn.symm.trans eo
 have a0:Wl (J1.hide L) h' L [] Bv:=⟨zzf,Nat.le_of_eq (Nat.zero_add _),[],⟨0,k2 _ _ l1⟩,Cx⟩
 have hO:∀ b,Mr (compEnvC scope (F3 env.cells scope.names []) cd env) b->B.h₀.get? b=none:=λ b q=>(show b=cd from q).symm▸Mo st2 hcd2
 have fin:∀ s3:Shared,s3={s1 with heap:=h',toks:=s1.toks+([]:List (Str×Value)).length} ->
   codeAny (model B.prog B.w) A (.compLoop (.ListComp elt (⟨tg,iter,ifs,0⟩::rest) scope cpos) 0 (.ref I) (.ref L) (compEnvC scope (F3 env.cells scope.names []) cd env))
    (compPost (model B.prog B.w) A E use Q (.ref L) cd) s3:=λ s3 e3=>by
  subst e3
  refine Abo hT (λ Z Z Z=>rfl) (λ Z Z Z=>rfl) (λ A Z Z Z=>rfl) ht hb (s:={s1 with heap:=h',toks:=s1.toks+([]:List (Str×Value)).length}) hR hEc st3 hO P r3 hno hnL a0 e λ s4 s5 J4 ρ4 acc b4 σ4 e x4 g5 m5 st5 hE5 a5=>?_
  obtain ⟨mm,hns5,_⟩:=hE5.at_
  have ho:∀ b o,s.heap.get? b=some o->s1.heap.get? b=some o->¬ Kb own (Ai1 (compEnvC scope (F3 env.cells scope.names []) cd env) L) b:=λ b o e e1 q=>
   q.elim (λ q=>nomatch (hown b q).symm.trans e) λ q=>q.elim (λ q=>nomatch ((show b=cd from q)▸hcd1).symm.trans e1) λ q=>nomatch ((show b=L from q)▸hLn).symm.trans e1
  refine hfin cd L s5 J4 acc b4 mm σ4 e (Qk x1 hcd1) (Mo st2 hcd2) hE5.notId hns5 ⟨x1.g.pre.trans x4.g.pre,λ b o eb nb=>?_,λ c q=>?_,x4.g.eta.trans (congrArg (L::·) x1.g.eta),Qk x1 hLn⟩ (x1.m.trans ⟨x4.m.gens.trans rfl,x4.m.os.trans rfl⟩ |>.trans m5) st5 a5
  ·have e1:=x1.g.keep b o eb nb λ q=>q
   have n1:=Ch.nnl x1.g.toGrow0 eb nb
   have e3:=k b o e1
   have nn:=ho b o eb e1
   exact g5.keep b o (x4.g.keep b o e3 n1 nn) (Ch.nnl x4.g.toGrow0 e3 n1) λ q=>nn (.inl q)
  ·refine (x4.g.new c q).elim (x1.g.new c) λ q=>(Classical.em (c∈J.l)).imp id λ hc=>?_
   cases eb:s.heap.get? c with
   | none=>rfl
   | some o=>exact nomatch (show h'.get? c=none from q).symm.trans (k c o (x1.g.keep c o eb hc λ q=>q))
 exact codeAny_compStart_list (fin _ rfl) (P.self {s1 with heap:=h',toks:=s1.toks+([]:List (Str×Value)).length} _ i _ _ r3 (fin _ rfl))
theorem Ap0 {cd:Addr} {J:Aj} {h:Heap} {mm:Str->Option Value} (hn:h.Ns cd mm):A0 (is1 cd) J h:=λ b q=>hn.elim λ o r=>r.elim λ es r=>r.elim λ ep r=>q▸⟨o,r.1,.inl ⟨es,ep,r.2.1⟩⟩
theorem CGr.go {J J':Aj} {h0:Heap} {s:Shared} {h':Heap} {L cd:Addr} {acc:List PV} {b:Nat} {σ:PS} {mm:Str->Option Value} (x:CGr J J' h0 s.heap L) (st:St B J' σ s.heap) (a:Wl J' s.heap L acc b) (hc:h0.get? cd=none) (hb:B.h₀.get? cd=none) (hn:¬ J'.has cd) (hns:s.heap.Ns cd mm) (hs:Heap.SameBut cd s.heap h'):
  CGr J J' h0 h' L/\St B J' σ h'/\Wl J' h' L acc b:=by
 have g0:Grow0 (is1 cd) J' J' s.heap h':=⟨List.prefix_refl _,λ b o e Z q=>(hs.2 b q).trans e,λ Z q=>.inl q,rfl⟩
 refine ⟨⟨x.pre,λ b o e n=>(hs.2 b λ q=>nomatch (q▸hc).symm.trans e).trans (x.keep b o e n),x.new,x.eta,x.nL⟩,st.move0 g0 (Ap0 hns) (λ b q=>q▸hb) λ a q o e=>(hs.2 a λ q'=>hn (q'▸q)).trans e,a.hid,a.room,a.at_.elim λ vs r=>⟨vs,r.1.elim λ n e=>⟨n,(hs.2 L λ q=>hn (q▸.inr a.hid)).trans e⟩,Sx g0 (Ap0 hns) st.idOk _ _ r.2⟩⟩
theorem At8 {elt tg iter:Expr} {ifs:List Expr} {rest:List Comprehension} {scope:Scope} {cpos p:Pos} {fin:Aez} {fi:IF} {t:TF} {g:CF} {turn:Value->Env->Sem Fin->Sem Fin} {n m:Nat} {js:List Nat} (hf:Aa9 fin)
  (hi:SI B d ks xs tg iter fi) (hT:Gv (.ListComp elt (⟨tg,iter,ifs,0⟩::rest) scope cpos) 0 tg p turn) (ht:SA Mr B d ks' xs' tg t) (hb:CB B d ks' xs' turn g) (C:P4 ks ks' xs xs' scope m js)
  (hs:∀ (env:Env) x,foldedSetIterable iter env x=pure x):SE B d ks xs (.ListComp elt (⟨tg,iter,ifs,0⟩::rest) scope cpos) (Ako fin n m js fi t g):=λ A s env ρ J σ hR hE hS k Q E e hQ=>by
 rw [eval_ListComp]
 exact Abn (κ:=λ acc σ=>fin acc σ k) (use:=none) hi hT ht hb C hs hR hE hS e λ cd L s' J' acc b mm σ' e hc hb hn hns x m st a=>⟨mm,hns,λ h' hsb=>by
  obtain ⟨x,st,a⟩:=x.go st a hc hb hn hns hsb
  exact hf (s':={s' with heap:=h'}) e x ⟨m.gens,m.os⟩ st hS.idOk a λ J'' p σ'' e y r Z=>hQ _ _ J'' p σ'' e y r⟩
theorem Ajl {elt tg iter:Expr} {ifs:List Expr} {rest:List Comprehension} {scope:Scope} {cpos p:Pos} {fin:Aez} {fi:IF} {t:TF} {g:CF} {turn:Value->Env->Sem Fin->Sem Fin} {n m:Nat} {js:List Nat} {x:Str} {pos pos':Pos} {i:Nat} (hf:Aa9 fin)
  (hi:SI B d ks xs tg iter fi) (hT:Gv (.ListComp elt (⟨tg,iter,ifs,0⟩::rest) scope cpos) 0 tg p turn) (ht:SA Mr B d ks' xs' tg t) (hb:CB B d ks' xs' turn g) (C:P4 ks ks' xs xs' scope m js)
  (hs:∀ (env:Env) x,foldedSetIterable iter env x=pure x) (hx:xs[i]?=some x) (hk:ks.lookup x=some .local)
  (hsw:∀ env:Env,env.scope.kind=.function->env.scope.names=ks->swapsWith (.ListComp elt (⟨tg,iter,ifs,0⟩::rest) scope cpos) (some (.Name x pos')) pos.line env=pure true):
  SS B d ks xs (.Assign [.Name x pos'] (.ListComp elt (⟨tg,iter,ifs,0⟩::rest) scope cpos) pos) (Aqi i (Ako fin n m js fi t g)):=λ A s env ρ J σ hR hE hS hO kn kr Q E e hN hT'=>by
 rw [exec_Assign_Name_used _ _ _ _ (hsw env hE.kind hE.names)]
 refine zza (wpAny_standAt (zza ?_))
 show wpAny _ _ (comprehension (.ListComp elt (⟨tg,iter,ifs,0⟩::rest) scope cpos) scope env (firstIterPos (⟨tg,iter,ifs,0⟩::rest) cpos) (newList []) false (eval iter env) (some (assign (.Name x pos') env)) >>= λ Z=>pure ()) _ _ _
 refine zza (Abn (κ:=λ acc σ=>fin acc σ λ p σ=>Ge ρ i p λ ρ=>kn ρ σ) (use:=some (assign (.Name x pos') env)) hi hT ht hb C hs hR hE hS e λ cd L s' J' acc b mm σ' e hc hb hn hns cg m st a=>?_)
 show wpAny _ _ (assign (.Name x pos') env (.ref L)) _ _ _
 have hcl:¬ Ck env cd:=λ q=>(hE.ownDead q).2.elim λ o eo=>nomatch hc.symm.trans eo
 refine hf e cg m st hS.idOk a λ J'' p σ'' e y r hh=>?_
 have hE':=hE.up y
 have hn':¬ J''.has cd:=λ q=>hn (hh _ q)
 refine wpAny_assign_Name (N0 hE' y.st (hO _ (.inl rfl)) hx hk r λ s2 y2 hE2=>?_)
 have hns2:s2.heap.Ns cd mm:=Ac0 y2.g.toGrow0.mv hn' (λ q=>hcl (.inl q)) hns
 refine ⟨mm,hns2,λ h' hsb=>zzb (zzb ?_)⟩
 have g0:Grow0 (is1 cd) J'' J'' s2.heap h':=⟨List.prefix_refl _,λ b o e Z q=>(hsb.2 b q).trans e,λ Z q=>.inl q,rfl⟩
 have st3:St B J'' σ'' h':=y2.st.move0 g0 (Ap0 hns2) (λ b q=>q▸hb) λ a q o e=>(hsb.2 a λ q'=>hn' (q'▸q)).trans e
 have hE3:=hE2.but g0 (Ap0 hns2) y2.st.idOk λ b q q'=>hcl (q'▸q)
 have y3:Nx B (Kb (is1 cd) (Ck env)) J'' s' J'' σ'' s2:=y2.w (λ b q=>.inr (.inl q)) λ b q=>q.elim (Ap0 hns b) (hE'.ownOk b)
 exact hN {s2 with heap:=h'} J'' _ σ'' ((Pl ρ i _).symm.trans e) (y.absorb y3 g0 ⟨rfl,rfl⟩ st3 (λ b q=>q▸hc) (λ b o q Z=>Aj.nl (hE.ownDead q).1) hE.ownOk) hE3
end
end
section
def Mm (kvs:List (PV×PV)):List PV:=@List.rec _ (λ Z=>List PV) [] (λ x Z ih=>@Prod.rec _ _ (λ Z=>List PV) (λ p Z=>p::ih) x) kvs
theorem Ab8 {w:World} {J:Aj} {h:Heap} {kvs:List (PV×PV)} {es:List DictEntry} (r:Bg w J h kvs es):RepL J h (Mm kvs) (es.map (·.key)):=by
 induction r with
 | nil=>exact Cx
 | cons rp _ _ _ ih=>exact Bd rp ih
theorem Tu:∀ kvs:List (PV×PV),(Mm kvs).length=kvs.length
 | []=>rfl
 | (k,v)::r=>congrArg Nat.succ (Tu r)
theorem Alx {es:List DictEntry} {vs:List Value} (hl:vs.length=es.length) (h:∀ j (h:j<vs.length),∃ e,es[j]?=some e/\vs[j]=e.key):vs=es.map (·.key):=by
 refine List.ext_getElem (by rw [hl,List.length_map]) λ i h1 h2=>?_
 obtain ⟨e,he,hv⟩:=h i h1
 rw [List.getElem?_eq_getElem (hl▸h1)] at he
 rw [List.getElem_map,hv,Option.some.inj he]
def Avn (p:PV) (σ:PS) (k:List PV->Bool):Bool:=vC false F1 F1 F1 F1 k F2 (λ i=>Ys i σ k λ kvs Z=>k (Mm kvs)) F1 p
section
variable {B:Aq} {A:Around} {J:Aj} {σ:PS} {s:Shared}
theorem Abm {a:Addr} {vs:List Value} {l:List PV} (st:St B J σ s.heap) (hl:s.heap.IsList a vs.toArray) (r:RepL J s.heap l vs) (hz:l.length≤Bv):Al0 B A J σ s (.ref a) l:=λ E Q h=>by
 have y:=Nx.keep (h':=(s.heap.push (seqObj "list" #[] 0)).update s.heap.objs.size (Obj.mapSeq (·++vs.toArray))) st (Ab _ _) s.toks λ b o e=>
  (Heap.get?_update_other _ _ (Ne.symm (Nat.ne_of_lt (Heap.lt_size e)))).trans (zzc _ e)
 exact collect_list hl (h l vs _ y (y.upL r) (List.Perm.refl _)) (by rw [r.length];exact Nat.le_trans hz B0)
theorem Nx.kept {s':Shared} (st:St B J σ s.heap) (hk:∀ b o,s.heap.get? b=some o->s'.heap.get? b=some o) (hm:Sm s s'):Nx B Ao J s J σ s':=⟨.keepAll hk,hm,st.keepAll hk,st.idOk,Ab _ _⟩
theorem Ah8 {n:Nat} (h:n≤Bv):n<sizeLine:=Nat.lt_of_le_of_lt h (by decide)
theorem Av0 {a D:Addr} {es:List DictEntry} {n:Nat} {s1:Shared} (hh:A.handled=none) (hsm:(a==sysModules)=false) (d:s.heap.get? a=some (W.dictOf es n)) (hk:∀ b o,s.heap.get? b=some o->s1.heap.get? b=some o) (hD:s.heap.get? D=none) (hD1:∃ o,s1.heap.get? D=some o):
  Al4 B.prog B.w A (.ref a) es.length (λ V=>V=λ k Z v=>∃ e,es[k]?=some e/\v=e.key) s1 D:=Amo (A:=A) hh hsm (hk _ _ d) (λ e=>nomatch (e▸hD).symm.trans d) hD1
theorem Amh {a:Addr} {kvs:List (PV×PV)} {es:List DictEntry} {n:Nat} (hh:A.handled=none) (st:St B J σ s.heap) (hsm:(a==sysModules)=false) (D:s.heap.get? a=some (W.dictOf es n)) (r:Bg B.w J s.heap kvs es) (hz:kvs.length≤Bv):Al0 B A J σ s (.ref a) (Mm kvs):=λ E Q h=>
 R2 (n:=es.length) (r.length▸Ah8 hz) (λ s1 D1 hk hD hD1 Z=>Av0 (A:=A.in1) hh hsm D hk hD hD1) λ s' vs V hV hk hm hl hv=>by
  subst hV
  rw [Alx hl hv]
  have y:=Nx.kept st hk hm
  exact h _ _ s' y (y.upL (Ab8 r)) (List.Perm.refl _)
theorem Aoi {p:PV} {v:Value} {κ:List PV->Bool} {C:Prop} (hh:A.handled=none) (e:Avn p σ (λ l=>bC false (κ l) (An l))=true) (st:St B J σ s.heap) (r:Ae J s.heap p v) (h:∀ l,κ l=true->l.length≤Bv->Al0 B A J σ s v l->C):C:=by
 cases p with
 | lst l=>exact Mu (P:=λ v'=>v=v'->C) r (λ a us Z t ru ev=>Bs (b:=An l) (t:=κ l) e λ hz e=>h l e (Ap hz) (ev▸Abm st t ru (Ap hz))) rfl
 | obj i=>exact F7 (P:=λ v'=>v=v'->C) r (λ a ea ev=>Yt e (λ e=>Cp (k:=λ l=>bC false (κ l) (An l)) e st ea λ l o us n e Z ho hc Z Z hd rl=>Bs e λ hz e=>h l e (Ap hz) (ev▸Abm st ⟨o,ho,hc,n,hd⟩ rl (Ap hz)))
   λ e=>Eo (k:=λ kvs Z=>bC false (κ (Mm kvs)) (An (Mm kvs))) e st ea λ kvs f o es n e Z ho hc Z hd Z rd=>Bs e λ hz e=>h _ e (Ap hz) (ev▸Amh hh st (st.low a (Aj.at ea)) (Bm hc hd▸ho) rd (Tu kvs▸Ap hz))) rfl
 | _=>exact ff e
def Ss:Fn:=λ ps σ k=>on1 ps λ p=>Avn p σ λ l=>bC false (Ab7 l λ l'=>k (.lst l') σ) (An l)
theorem Aja {d:Nat} (h:Cc A d):A.units+30<cLine:=Nat.lt_of_le_of_lt (Nat.le_trans (Nat.add_le_add_left (by decide) _) (Nat.add_le_add_right (Nat.le_add_right _ (12*d)) 100)) h.2.1
theorem Ajg:SBi B "sorted" Ss:=λ A s J σ ps vs hR st r k Q E e hQ=>Oc e λ p hp e=>by
 subst hp
 refine r.one λ v hv rv=>?_
 subst hv
 exact Aoi (A:=A.in1) hR.2.2 e st rv λ l e hz hc=>T9 (Aja hR) hc e hz λ v s' l' e x r=>hQ v s' J (.lst l') σ e x r
def Awb (p:PV) (σ:PS) (k:List PV->Bool):Bool:=vC false F1 F1 F1 k k F2 (λ i=>Ys i σ k λ kvs Z=>k (Mm kvs)) F1 p
def A2i:Fn:=λ ps σ k=>on1 ps λ p=>Awb p σ λ l=>bC false (k (.lst l) σ) (An l)
theorem As2 {p:PV} {v:Value} {κ:List PV->PS->Bool} {Q:Value->Shared->Prop} {E:Value->Shared->Prop} (hh:A.handled=none) (e:Awb p σ (λ l=>bC false (κ l σ) (An l))=true) (st:St B J σ s.heap) (rv:Ae J s.heap p v)
  (h:∀ v s' l,κ l σ=true->Nx B Ao J s J σ s'->Ae J s'.heap (.lst l) v->Q v s'):wpAny (model B.prog B.w) A (call (.type "list") [v]) Q E s:=by
 have seq:∀ (a:Addr) (us:List Value) (T:String) (hT:T="list"\/T="tuple") (o:Obj) (n:Nat) (l:List PV),s.heap.get? a=some o->o.cls=.type T->o.data=.seq us.toArray n->bC false (κ l σ) (An l)=true->RepL J s.heap l us->wpAny (model B.prog B.w) A (call (.type "list") [.ref a]) Q E s:=λ a us T hT o n l ho hc hd e ru=>Bs e λ hz e=>by
  refine call_list_seq a hT ho hc hd (λ h' c' hk hl=>?_) (by rw [List.size_toArray,ru.length];exact Nat.le_trans (Ap hz) B0)
  have y:=Nx.keep st (Ab _ _) s.toks hk
  exact h _ _ l e y (Hv (B5 st.idOk) ⟨_,hl,rfl,c',rfl⟩ (y.upL ru))
 have dic:∀ {i:Nat} {a:Addr},J.l[i]?=some a->V0 i σ (λ kvs Z=>bC false (κ (Mm kvs) σ) (An (Mm kvs)))=true->wpAny (model B.prog B.w) A (call (.type "list") [.ref a]) Q E s:=λ {i a} ea e=>Eo (k:=λ kvs Z=>bC false (κ (Mm kvs) σ) (An (Mm kvs))) e st ea λ kvs f o es n e Z ho hc Z hd Z rd=>Bs e λ hz e=>by
  refine Amp (n:=es.length) (rd.length▸Ah8 (Tu kvs▸Ap hz)) (λ s1 D1 hk hD hD1 Z=>Av0 (A:=A.in1.in1) hh (st.low a (Aj.at ea)) (Bm hc hd▸ho) hk hD hD1) λ s' vs V hV hk hm hl hv hL=>?_
  subst hV
  have y:=Nx.kept st hk hm
  rw [Alx hl hv] at hL
  exact h _ s' _ e y (Hv (B5 st.idOk) hL (y.upL (Ab8 rd)))
 cases p with
 | tup l=>exact Cw rv λ a us Z Z t ru=>t.elim λ o q=>q.2.2.elim λ n q2=>seq a us "tuple" (.inr rfl) o n l q.1 q.2.1 q2 e ru
 | lst l=>exact Mu rv λ a us Z t ru=>t.elim λ o q=>q.2.2.elim λ n q2=>seq a us "list" (.inl rfl) o n l q.1 q.2.1 q2 e ru
 | obj i=>exact F7 rv λ a ea=>Yt e (λ e=>Cp (k:=λ l=>bC false (κ l σ) (An l)) e st ea λ l o us n e Z ho hc Z Z hd rl=>seq a us "list" (.inl rfl) o n l ho hc hd e rl) (dic ea)
 | _=>exact ff e
theorem Aqo:SBt B "list" A2i:=λ A s J σ ps vs hR st r k Q E e hQ=>Oc e λ p hp e=>by
 subst hp
 refine r.one λ v hv rv=>?_
 subst hv
 exact As2 (κ:=λ l σ=>k (.lst l) σ) hR.2.2 e st rv λ v s' l e x r=>hQ v s' J (.lst l) σ e x r
end
end
section
set_option tactic.hygienic true
def SX {β:Type} (B:Aq) (d:Nat) (ks:List (Str×NameKind)) (xs:List Str) (e:Expr) (f:Ax->CM β) (rel:Aj->Heap->β->Value->Prop):Prop:=
 ∀ (A:Around) (s:Shared) (env:Env) (ρ:Ax) (J:Aj) (σ:PS),Cc A d->As ks xs env ρ J s.heap->St B J σ s.heap->Aal B A Ao J σ s (eval e env) (f ρ) rel
section
variable {B:Aq} {d:Nat} {ks:List (Str×NameKind)} {xs:List Str} {β:Type}
theorem X5 {x:Str} {np pos:Pos} {arg:Expr} {id:String} {f:Ax->CM β} {rel:Aj->Heap->β->Value->Prop} {A:Around} {s:Shared} {env:Env} {ρ:Ax} {J:Aj} {σ:PS} {k:β->PS->Bool} {Q E:Value->Shared->Prop}
  (hx:nsIn B.K mainGlobals x=some none) (hk:ks.lookup x=some .globalImplicit) (hd:(x==("__debug__":Str))=false) (hb:bootBuiltins x=some (.builtin id)) (hn:x≠"__name__")
  (ha:SX B d ks xs arg f rel) (hs:starEach [arg] env=[(false,eval arg env)])
  (hR:Cc A d) (hE:As ks xs env ρ J s.heap) (hS:St B J σ s.heap) (e:f ρ σ k=true)
  (h:∀ v s1 J1 b σ1,k b σ1=true->Nx B Ao J s J1 σ1 s1->rel J1 s1.heap b v->wpAny (model B.prog B.w) A (call (.builtin id) [v]) Q E s1):wpAny (model B.prog B.w) A (eval (.Call (.Name x np) [arg] [] pos) env) Q E s:=by
 show wpAny _ _ (do callWith pos (<- eval (.Name x np) env) [] (backTo pos (starEach [arg] env)) []) _ _ _
 have hany:(starEach [arg] env).any (·.1)=false:=by rw [hs];rfl
 refine wpAny_bind (Name_function_global hE.kind (Cq hE hk) (loadGlobal_builtin (by rw [hE.globals];exact hS.T.g) (mg_none_of B.X B.T.g hx) (by rw [hE.builtins];exact hS.T.b) ((B.T.builtins x hn).trans hb)
  (callWith_builtin ((A9 _ _).trans hany) (Bo ((A9 _ _).trans hany) ?_))) hd)
 rw [hs]
 show wpAny _ _ (spliced ((false,eval arg env)::backTo pos [])) _ _ _
 exact spliced_cons (ha A s env ρ J σ hR hE hS _ _ E e λ v s1 J1 b σ1 e x1 r1=>zzb (h v s1 J1 b σ1 e x1 r1))
theorem Afl {x:Str} {np pos:Pos} {arg:Expr} {T:String} {f:Ax->CM β} {rel:Aj->Heap->β->Value->Prop} {A:Around} {s:Shared} {env:Env} {ρ:Ax} {J:Aj} {σ:PS} {k:β->PS->Bool} {Q E:Value->Shared->Prop}
  (hx:nsIn B.K mainGlobals x=some none) (hk:ks.lookup x=some .globalImplicit) (hd:(x==("__debug__":Str))=false) (hb:bootBuiltins x=some (.type T)) (hn:x≠"__name__")
  (ha:SX B d ks xs arg f rel) (hs:starEach [arg] env=[(false,eval arg env)])
  (hR:Cc A d) (hE:As ks xs env ρ J s.heap) (hS:St B J σ s.heap) (e:f ρ σ k=true)
  (h:∀ v s1 J1 b σ1,k b σ1=true->Nx B Ao J s J1 σ1 s1->rel J1 s1.heap b v->wpAny (model B.prog B.w) A (call (.type T) [v]) Q E s1):wpAny (model B.prog B.w) A (eval (.Call (.Name x np) [arg] [] pos) env) Q E s:=by
 show wpAny _ _ (do callWith pos (<- eval (.Name x np) env) [] (backTo pos (starEach [arg] env)) []) _ _ _
 have hany:(starEach [arg] env).any (·.1)=false:=by rw [hs];rfl
 refine wpAny_bind (Name_function_global hE.kind (Cq hE hk) (loadGlobal_builtin (by rw [hE.globals];exact hS.T.g) (mg_none_of B.X B.T.g hx) (by rw [hE.builtins];exact hS.T.b) ((B.T.builtins x hn).trans hb)
  (PyProof.Rows.callWith_type ((A9 _ _).trans hany) (Bo ((A9 _ _).trans hany) ?_))) hd)
 rw [hs]
 show wpAny _ _ (spliced ((false,eval arg env)::backTo pos [])) _ _ _
 exact spliced_cons (ha A s env ρ J σ hR hE hS _ _ E e λ v s1 J1 b σ1 e x1 r1=>zzb (h v s1 J1 b σ1 e x1 r1))
end
def Sv:Aj->Heap->Nat->Value->Prop:=λ J h i v=>∃ r a,v=.ref r/\J.l[i]?=some a/\h.IsItemsView r a
def Bj (kvs:List (PV×PV)):Bool:=lC true (λ x Z=>@Prod.rec _ _ (λ Z=>Bool) (λ p Z=>El (λ Z=>true) p) x) kvs
def Tn (f:EF):Ax->CM Nat:=λ ρ σ k=>f ρ σ λ p σ=>Qq (λ i=>V0 i σ λ kvs Z=>bC false (k i σ) (Bj kvs)) p
theorem C1 {kvs:List (PV×PV)} (h:Bj kvs=true) (hk:Bw kvs):∀ x∈kvs,∃ y,x.1=.str y:=by
 obtain ⟨⟨k,_,hall⟩,_⟩:=hk
 intro x hx
 cases kvs with
 | nil=>exact absurd hx zzj
 | cons a r=>
  obtain ⟨y,hy,_⟩:=Pz (k:=λ Z=>true) (p:=a.1) h
  have h1:a.1.kd=k:=(hall _ zzf).1
  rw [hy] at h1
  exact Gz ((hall x hx).1.trans h1.symm)
def Qp (p:PV):Str:=@PV.rec (λ Z=>Str) (λ Z=>Unit) ⟨#[]⟩ (λ Z=>⟨#[]⟩) (λ Z=>⟨#[]⟩) (λ x=>⟨(Ba x).toArray⟩) (λ Z Z=>⟨#[]⟩) (λ Z Z=>⟨#[]⟩) (λ Z Z=>⟨#[]⟩) (λ Z=>⟨#[]⟩) (λ Z=>⟨#[]⟩) (λ Z=>⟨#[]⟩) () (λ Z Z Z Z=>()) p
def F6 (kvs:List (PV×PV)) (es:List DictEntry):List (Str×Value):=kvs.zipWith (λ x e=>(Qp x.1,e.val)) es
section
variable {w:World} {J:Aj} {h:Heap} {kvs:List (PV×PV)} {es:List DictEntry}
theorem Abz (r:Bg w J h kvs es):(F6 kvs es).map (·.1)=kvs.map λ x=>Qp x.1:=by
 induction r with
 | nil=>rfl
 | cons _ _ _ _ ih=>exact congrArg (_::·) ih
theorem Cu (r:Bg w J h kvs es):(F6 kvs es).length=kvs.length:=by
 rw [<- List.length_map (f:=λ x:Str×Value=>x.1),Abz r,List.length_map]
theorem Fp {prog:Program} {a:Addr} {n:Nat} (D:h.get? a=some (W.dictOf es n)) (hk:Bw kvs) (r:Bg w J h kvs es) (hs:Bj kvs=true):
  h.DictAt (PySem.strKind prog w) a (F6 kvs es) n:=by
 have hall:=C1 hs hk
 refine ⟨_,es.toArray,D,⟨rfl,rfl,rfl⟩,rfl,λ e he=>?_,?_,?_⟩
 ·have he2:e∈es:=by simpa using he
  clear D hk hs he
  induction r with
  | nil=>exact absurd he2 zzj
  | @cons p q e' l es rp _ hh _ ih=>
   rcases List.mem_cons.mp he2 with rfl|he2
   ·obtain ⟨y,hy⟩:=hall _ zzf
    obtain ⟨y,rfl⟩:∃ y,p=.str y:=⟨y,hy⟩
    refine ⟨⟨(Ba y).toArray⟩,?_,hh⟩
    obtain ⟨t,ek⟩:=(rp:∃ t,e.key=.str ⟨(Ba y).toArray⟩ t)
    rw [ek]
    exact beq_self_eq_true _
   ·exact ih (λ x hx=>hall x (zze _ hx)) he2
 ·show Pairs _ es _
  clear D hk hs
  induction r with
  | nil=>exact .nil
  | @cons p q e' l es rp _ hh _ ih=>
   obtain ⟨y,rfl⟩:∃ y,p=.str y:=hall _ zzf
   refine .cons ?_ rfl (ih λ x hx=>hall x (zze _ hx))
   obtain ⟨t,ek⟩:=(rp:∃ t,e'.key=.str ⟨(Ba y).toArray⟩ t)
   rw [ek]
   exact beq_self_eq_true _
 ·rw [Abz r]
  have inj:∀ x∈kvs,∀ y∈kvs,Qp x.1=Qp y.1->x.1=y.1:=λ x hx y hy e=>by
   obtain ⟨u,hu⟩:=hall x hx
   obtain ⟨v,hv⟩:=hall y hy
   rw [hu,hv] at e ⊢
   have e:(Str.mk (Ba u).toArray)=⟨(Ba v).toArray⟩:=e
   rw [Adg u v (by simpa using Str.mk.inj e)]
  refine (List.pairwise_map.mpr ?_:List.Nodup (kvs.map λ x=>Qp x.1))
  exact (List.pairwise_map.mp hk.2).imp_of_mem λ hx hy hne e=>hne (inj _ hx _ hy e)
end
def Ms (kvs:List (PV×PV)):List PV:=@List.rec _ (λ Z=>List PV) [] (λ x Z ih=>@Prod.rec _ _ (λ Z=>List PV) (λ p q=>.tup [p,q]::ih) x) kvs
theorem Yw:∀ kvs:List (PV×PV),(Ms kvs).length=kvs.length
 | []=>rfl
 | (k,v)::r=>congrArg Nat.succ (Yw r)
theorem Tw {prog:Program} {w:World} {J:Aj} {h h':Heap} {lo:Addr} (hi:Do J h) (hup:∀ p v,Ae J h p v->Ae J h' p v) (hlo:h.objs.size≤lo):∀ {kvs:List (PV×PV)} {es:List DictEntry},Bg w J h kvs es->(∀ x∈kvs,∃ y,x.1=.str y) ->
  ∀ (as:List Addr),as.length=kvs.length->(∀ a∈as,lo<a)->(∀ (j:Nat) (a:Addr),as[j]?=some a->∃ (key:Value) (k:Str) (x:Value),(F6 kvs es)[j]?=some (k,x)/\(PySem.strKind prog w).is k key=true/\h'.get? a=some {cls:=.type "tuple",data:=.seq #[key,x]}) ->
   RepL J h' (Ms kvs) (as.map Value.ref)
 | _,_,.nil,_,[],_,_,_=>Cx
 | _,_,.cons (p:=p) (q:=q) (e:=e) (l:=l) (es:=es) rp rq hh r,hall,a::as,hl,hgt,hp=>by
  obtain ⟨key,k,x,e1,e2,e3⟩:=hp 0 a rfl
  have e1:some (Qp p,e.val)=some (k,x):=e1
  cases e1
  obtain ⟨y,rfl⟩:∃ y,p=.str y:=hall _ zzf
  have hkey:∃ t,key=.str ⟨(Ba y).toArray⟩ t:=by
   cases key with
   | str z t=>
    have:(z==(⟨(Ba y).toArray⟩:Str))=true:=e2
    exact ⟨t,by rw [eq_of_beq this]⟩
   | _=>cases e2
  obtain ⟨t,rfl⟩:=hkey
  have na:¬ J.has a:=λ q=>(hi a q).elim λ o ho=>Nat.lt_irrefl _ (Nat.lt_trans (Nat.lt_of_lt_of_le (Heap.lt_size ho.1) hlo) (hgt a zzf))
  exact Bd (Ek na ⟨_,e3,rfl⟩ ⟨_,e3,rfl,0,rfl⟩ (Bd (Aw2 _ _) (Bd (hup _ _ rq) Cx))) (Tw hi hup hlo r (λ x hx=>hall x (zze _ hx)) as (Nat.succ.inj hl) (λ b hb=>hgt b (zze _ hb)) λ j b hj=>hp (j+1) b hj)
section
variable {B:Aq} {d:Nat} {ks:List (Str×NameKind)} {xs:List Str}
theorem Ara {value:Expr} {apos pos:Pos} {f:EF} (hv:SE B d ks xs value f)
  (he:∀ env,∃ pl,eval (.Call (.Attribute value "items" apos) [] [] pos) env=(do
   let ov<-eval value env
   standAt apos.atName
   let (f,first)<-holding [ov] (getMethod ov "items" pl)
   callWith pos f first (backTo pos (starEach [] env)) [])):SX B d ks xs (.Call (.Attribute value "items" apos) [] [] pos) (Tn f) Sv:=λ A s env ρ J σ hR hE hS k Q E e hQ=>by
 obtain ⟨pl,he⟩:=he env
 refine MethodCall_ (pl:=pl) (hv A s env ρ J σ hR hE hS _ _ E e λ v s1 J1 p σ1 e x1 r1=>?_) he
 refine Aa4 (k:=λ i=>V0 i σ1 λ kvs Z=>bC false (k i σ1) (Bj kvs)) e r1 λ i a e ea=>Eo (k:=λ kvs Z=>bC false (k i σ1) (Bj kvs)) e x1.st ea λ kvs f o es n e Z ho hc hk hd Z rd=>Bs e λ hs e=>?_
 have D:=Bm hc hd▸ho
 have hT:s1.TypeIs (.ref a) "dict":=⟨_,D,rfl⟩
 refine getMethod_builtin hT PySem.F.plainAttrs_dict PySem.F.slot_dict_items PySem.F.type_dict_items (λ b eb=>by injection eb with eb;subst eb;exact ⟨_,D,rfl⟩) ?_
 refine callWith_builtin (by rw [A9];rfl) (Bo (by rw [A9];rfl) (wpAny_pure ?_))
 have y:=Nx.keep x1.st (Ab _ _) s1.toks (Aw s1.heap {cls:=.type "dict_items",data:=.fields #[.ref a]})
 refine call_meetsIn PySem.F.slot_dict_items hT PySem.F.entry_dict_items (PySem.F.args_dict_items_1 _) (meets_dict_items (PySem.strKind B.prog B.w) a (x1.st.low a (Aj.at ea))) ⟨?_,hQ _ _ J1 i σ1 e (x1.trans y) ⟨_,a,rfl,ea,⟨_,zzd _ rfl,rfl,rfl⟩⟩⟩
 obtain ⟨o,es',ho,r⟩:=Fp (prog:=B.prog) D hk rd hs
 exact ⟨_,o,es',n,ho,r⟩
def Adh (f:EF):EF:=λ ρ σ k=>Tn f ρ σ λ i σ=>V0 i σ λ kvs Z=>bC false (bC false (k (.lst (Ms kvs)) σ) (An kvs)) (Bj kvs)
theorem Anj {x:Str} {np pos apos pos':Pos} {value:Expr} {f:EF} (hx:nsIn B.K mainGlobals x=some none) (hk:ks.lookup x=some .globalImplicit) (hd:(x==("__debug__":Str))=false) (hb:bootBuiltins x=some (.type "list")) (hn:x≠"__name__")
  (ha:SX B d ks xs (.Call (.Attribute value "items" apos) [] [] pos') (Tn f) Sv) (hs:∀ env,starEach [Expr.Call (.Attribute value "items" apos) [] [] pos'] env=[(false,eval (.Call (.Attribute value "items" apos) [] [] pos') env)]):
  SE B d ks xs (.Call (.Name x np) [.Call (.Attribute value "items" apos) [] [] pos'] [] pos) (Adh f):=λ A s env ρ J σ hR hE hS k Q E e hQ=>by
 refine Afl hx hk hd hb hn ha (hs env) hR hE hS e λ v s1 J1 i σ1 e x1 r1=>?_
 obtain ⟨r,a,rfl,ea,hv⟩:=r1
 refine Eo (k:=λ kvs Z=>bC false (bC false (k (.lst (Ms kvs)) σ1) (An kvs)) (Bj kvs)) e x1.st ea λ kvs f o es n e Z ho hc hk hd Z rd=>Bs e λ hs e=>Bs e λ hz e=>?_
 have hat:=Fp (prog:=B.prog) (Bm hc hd▸ho) hk rd hs
 refine kdx_call (A:=A) hR.2.2 hv hat (by rw [Cu rd];exact Nat.le_trans (Ap hz) B0) λ h' tk acc c as kk hL hl hG hacc=>?_
 have y:=Nx.keep x1.st (Ab _ _) tk kk
 have rl:=Tw x1.st.idOk (λ p v r=>y.up r) (Nat.le_refl _) rd (C1 hs hk) as (by rw [hl,Cu rd]) hG.above hG.pairs
 exact hQ _ _ J1 (.lst (Ms kvs)) σ1 e (x1.trans y) (Hv (B5 x1.st.idOk) ⟨_,hL,rfl,c,by rw [<- hacc]⟩ rl)
def Adi (f:EF):EF:=λ ρ σ k=>Tn f ρ σ λ i σ=>V0 i σ λ kvs Z=>bC false (bC false (Ab7 (Ms kvs) λ l=>k (.lst l) σ) (An kvs)) (Bj kvs)
theorem Ank {x:Str} {np pos apos pos':Pos} {value:Expr} {f:EF} (hx:nsIn B.K mainGlobals x=some none) (hk:ks.lookup x=some .globalImplicit) (hd:(x==("__debug__":Str))=false) (hb:bootBuiltins x=some (.builtin "sorted")) (hn:x≠"__name__")
  (ha:SX B d ks xs (.Call (.Attribute value "items" apos) [] [] pos') (Tn f) Sv) (hs:∀ env,starEach [Expr.Call (.Attribute value "items" apos) [] [] pos'] env=[(false,eval (.Call (.Attribute value "items" apos) [] [] pos') env)]):
  SE B d ks xs (.Call (.Name x np) [.Call (.Attribute value "items" apos) [] [] pos'] [] pos) (Adi f):=λ A s env ρ J σ hR hE hS k Q E e hQ=>by
 refine X5 hx hk hd hb hn ha (hs env) hR hE hS e λ v s1 J1 i σ1 e x1 r1=>?_
 obtain ⟨r,a,rfl,ea,hv⟩:=r1
 refine Eo (k:=λ kvs Z=>bC false (bC false (Ab7 (Ms kvs) λ l=>k (.lst l) σ1) (An kvs)) (Bj kvs)) e x1.st ea λ kvs f o es n e Z ho hc hk hd Z rd=>Bs e λ hs e=>Bs e λ hz e=>?_
 have hat:=Fp (prog:=B.prog) (Bm hc hd▸ho) hk rd hs
 have hc:Al0 B A.in1 J1 σ1 s1 (.ref r) (Ms kvs):=λ E' Q' hc'=>by
  refine kdx_collect (A:=A.in1) hR.2.2 hv hat (by rw [Cu rd];exact Nat.le_trans (Ap hz) B0) λ h' tk as kk hl hG=>?_
  have y:=Nx.keep x1.st (Ab _ _) tk kk
  exact hc' _ _ _ y (Tw x1.st.idOk (λ p v r=>y.up r) (Nat.le_refl _) rd (C1 hs hk) as (by rw [hl,Cu rd]) hG.above hG.pairs) (List.Perm.refl _)
 exact T9 (Aja hR) hc e (Yw kvs▸Ap hz) λ v s' l' e x r=>hQ v s' J1 (.lst l') σ1 e (x1.trans x) r
end
end
section
theorem Mi:entryFor table "dict.update.loop"=some Builtin.«dict.update.loop»:=entryFor_of_tree (by kernel_rfl)
theorem Cv:plainId "dict.update.loop"=true:=by decide +kernel
structure Nxt (prog:Program) (w:World) (A:Around) (I D:Addr) (us:List Value) (at_:Nat->Heap->Prop):Prop where
 item:∀ (i:Nat) (v:Value) (s:Shared) (Q:Option Value->Shared->Prop) (E:Value->Shared->Prop),at_ i s.heap->us[i]?=some v->(∀ h',at_ (i+1) h'->Heap.SameBut I s.heap h'->Q (some v) {s with heap:=h'})->wpAny (model prog w) A (pyNext (.ref I)) Q E s
 done:∀ (i:Nat) (s:Shared) (Q:Option Value->Shared->Prop) (E:Value->Shared->Prop),at_ i s.heap->us[i]?=none->(∀ h',Heap.ExtBut I s.heap h'->Q none {s with heap:=h'})->wpAny (model prog w) A (pyNext (.ref I)) Q E s
 keep:∀ (i:Nat) (h h':Heap),at_ i h->(∀ b o,b≠D->h.get? b=some o->h'.get? b=some o)->at_ i h'
def Aby (l:List PV) (acc:List (PV×PV)) (κ:List (PV×PV)->Bool):Bool:=@List.rec _ (λ Z=>List (PV×PV)->Bool) κ (λ p Z ih acc=>Lo (λ xs=>on2 xs λ k q=>bC false (Vy k q acc ih) (Co k acc)) p) l acc
section
variable {B:Aq} {A:Around} {J:Aj} {s0:Shared} {D I:Addr} {us:List Value} {at_:Nat->Heap->Prop} {R:Result->Shared->Prop} {κ:List (PV×PV)->Bool}
theorem Ahd {res:Value} (W:Nxt B.prog B.w A.in1 I D us at_) (hI:s0.heap.get? I=none) (hDI:D≠I) (hD0:s0.heap.get? D=none) (hi:Do J s0.heap) (hu:A.units+40<cLine)
  (hR:∀ s' kvs es',κ kvs=true->(∀ b o,s0.heap.get? b=some o->s'.heap.get? b=some o)->Sm s0 s'->s'.heap.get? D=some (dictOf es' kvs.length)->Bw kvs->Bg B.w J s0.heap kvs es'->R (.ok (.ret res)) s'):
  ∀ (l:List PV) (i:Nat) (t:Tok) (s:Shared) (acc:List (PV×PV)) (es:List DictEntry),RepL J s0.heap l (us.drop i)->at_ i s.heap->(∀ b o,s0.heap.get? b=some o->s.heap.get? b=some o)->Sm s0 s->s.heap.get? D=some (dictOf es acc.length)->Bw acc->Bg B.w J s0.heap acc es->Aby l acc κ=true->acc.length+l.length≤Bv ->
   codeAny (model B.prog B.w) A (.builtin "dict.update.loop" ⟨[.ref D,.ref I,.int (i:Int) t,res],[]⟩) R s
 | [],i,t,s,acc,es,r,ha,kk,sm,hD,hko,rd,e,hz=>by
  refine codeAny_builtin Mi ?_
  rw [Around.under_plainId Cv _]
  show wpAny _ A.in1 (pyNext (.ref I) >>= _) _ _ s
  refine zza (W.done i s _ _ ha (Hp (show us.drop i=[] from r)) λ h' hx=>?_)
  show wpAny _ A.in1 (Builtin.Dict.addKeywords D [] >>= λ Z=>_) _ _ _
  exact zza (zzb (zzb (hR {s with heap:=h'} acc es e (λ b o e=>hx b o (λ q=>nomatch (q▸hI).symm.trans e) (kk b o e)) ⟨sm.gens,sm.os⟩ (hx D _ hDI hD) hko rd)))
 | p::l,i,t,s,acc,es,r,ha,kk,sm,hD,hko,rd,e,hz=>by
  refine codeAny_builtin Mi ?_
  rw [Around.under_plainId Cv _]
  show wpAny _ A.in1 (pyNext (.ref I) >>= _) _ _ s
  refine A8 (P:=λ vs=>us.drop i=vs->_) r (λ v w rv rl ed=>?_) rfl
  refine zza (W.item i v s _ _ ha (Bx ed).1 λ h' ha' hs=>?_)
  have kk':∀ b o,s0.heap.get? b=some o->h'.get? b=some o:=λ b o e=>(hs.2 b λ q=>nomatch (q▸hI).symm.trans e).trans (kk b o e)
  refine Aj0 (k:=λ xs=>on2 xs λ k q=>bC false (Vy k q acc λ kvs=>Aby l kvs κ) (Co k acc)) e rv λ xs a vs e1 na nd ta ra=>Yr e1 λ k q ex e2=>Bs e2 λ hkf e3=>?_
  subst ex
  obtain ⟨o,ho,hc,n,hda⟩:=ta
  refine ra.two λ kv qv ev rk rq=>?_
  subst ev
  refine zza (zzg (zza (wpAny_tryCatch ?_)))
  unfold Builtin.Dict.pairItems
  refine zza (wpAny_typeOf (T:="tuple") ⟨o,kk' _ _ ho,hc⟩ ?_)
  rw [if_pos (by decide)]
  refine zza (wpAny_seqItems (kk' _ _ ho) hda (zzb ?_))
  show wpAny _ _ (holding [kv,qv] (dictSet D kv qv)) _ _ _
  have up:=λ p v r=>Im (own:=Ao) (Ch.keepAll kk').toGrow0 (Ab J _) hi p v r
  have dk:DK B J h' D es acc.length acc k kv true:=⟨(hs.2 D hDI).trans hD,hko,rd.grow0 (own:=Ao) (Ch.keepAll kk').toGrow0 (Ab _ _) hi,hkf,up _ _ rk,λ Z=>rfl⟩
  refine zzg (Akm (s:={s with heap:=h'}) (q:=q) (by show A.units+1+30<cLine;omega) (Nat.le_trans (Nat.le_add_right _ _) hz) dk e3 λ kvs' es' n' h2 tk e hs2 hD2 hko' hn' hl' hrd=>?_)
  cases hn' rfl
  refine zzb ⟨plainId_quiet Cv _,?_⟩
  show codeAny _ _ (.builtin "dict.update.loop" ⟨[.ref D,.ref I,rawInt ((i:Int)+1),res],[]⟩) _ _
  exact Ahd W hI hDI hD0 hi hu hR l (i+1) 0 _ kvs' es' ((Bx ed).2.symm▸rl) (W.keep _ _ _ ha' λ b o hb e=>(hs2.2 b hb).trans e) (λ b o e=>(hs2.2 b λ q=>nomatch (q▸hD0).symm.trans e).trans (kk' b o e)) ⟨sm.gens,sm.os⟩ hD2 hko' (hrd J s0.heap rd rk rq) e
   (Nat.le_trans (Nat.add_le_add_right hl' _) (by rw [Nat.add_assoc,Nat.add_comm 1];exact hz))
theorem Agg {t I D:Addr} (hh:A.handled=none) (hI:I≠D) (ht:t≠D) (hti:t≠I):Nxt B.prog B.w A I D us (λ i h=>h.IsListIter I t i/\h.IsList t us.toArray) where
 item:=λ i v s Q E ha hv h=>wpAny_pyNext_list_item ha.1 ha.2 (by rw [List.getElem?_toArray];exact hv) λ h' hit hs=>h h' ⟨hit,ha.2.extBut hs.extBut hti⟩ hs
 done:=λ i s Q E ha hv h=>wpAny_pyNext_list_end hh ha.1 ha.2 (by rw [List.getElem?_toArray];exact hv) h
 keep:=λ i h h' ha hk=>⟨ha.1.elim λ o e=>⟨o,hk I o hI e.1,e.2⟩,ha.2.elim λ o e=>⟨o,hk t o ht e.1,e.2⟩⟩
theorem Atc {t I D:Addr} (hh:A.handled=none) (hI:I≠D) (ht:t≠D) (hti:t≠I):Nxt B.prog B.w A I D us (λ i h=>h.IsTupleIter I t i/\IsTup h t us.toArray) where
 item:=λ i v s Q E ha hv h=>wpAny_pyNext_tuple_item ha.1 ha.2 (by rw [List.getElem?_toArray];exact hv) λ h' hit hs=>h h' ⟨hit,ha.2.elim λ o e=>⟨o,hs.extBut t o hti e.1,e.2⟩⟩ hs
 done:=λ i s Q E ha hv h=>wpAny_pyNext_tuple_end hh ha.1 ha.2 (by rw [List.getElem?_toArray];exact hv) h
 keep:=λ i h h' ha hk=>⟨ha.1.elim λ o e=>⟨o,hk I o hI e.1,e.2⟩,ha.2.elim λ o e=>⟨o,hk t o ht e.1,e.2⟩⟩
end
theorem Ai3 {prog:Program} {w:World} {J:Aj} {h:Heap} {kvs:List (PV×PV)} {es:List DictEntry} (r:Bg w J h kvs es) (hall:∀ x∈kvs,∃ y,x.1=.str y):
  ∀ {es':List DictEntry},(∀ e∈es',∃ k,(PySem.strKind prog w).is k e.key=true/\e.hash=(PySem.strKind prog w).hash k)->Pairs (PySem.strKind prog w) es' (F6 kvs es)->Bg w J h kvs es':=by
 induction r with
 | nil=>intro es' _ hp;cases hp;exact .nil
 | @cons p q e l es rp rq _ _ ih=>
  intro es' hk hp
  have hp:Pairs _ es' ((Qp p,e.val)::F6 l es):=hp
  cases hp with
  | @cons e' _ es'' _ h1 h2 h3=>
   obtain ⟨y,rfl⟩:∃ y,p=.str y:=hall _ zzf
   obtain ⟨k,hk1,hk2⟩:=hk e' zzf
   have key:∃ t,e'.key=.str ⟨(Ba y).toArray⟩ t:=by
    cases hq:e'.key with
    | str z t=>
     rw [hq] at h1
     have:(z==(⟨(Ba y).toArray⟩:Str))=true:=h1
     exact ⟨t,by rw [eq_of_beq this]⟩
    | _=>rw [hq] at h1;cases h1
   obtain ⟨t,hkey⟩:=key
   rw [hkey] at hk1
   have ek:(⟨(Ba y).toArray⟩:Str)=k:=eq_of_beq (show ((⟨(Ba y).toArray⟩:Str)==k)=true from hk1)
   exact .cons (hkey▸Aw2 _ _) (h2▸rq) (hk2.trans (ek▸rfl)) (ih (λ x hx=>hall x (zze _ hx)) (λ x hx=>hk x (zze _ hx)) h3)
section
variable {B:Aq} {A:Around} {J:Aj} {σ:PS} {s:Shared}
theorem Yb {h h':Heap} (hk:∀ b o,h.get? b=some o->h'.get? b=some o):h.get? h'.objs.size=none:=by
 cases e:h.get? h'.objs.size with
 | none=>rfl
 | some o=>exact absurd (Heap.lt_size (hk _ _ e)) (Nat.lt_irrefl _)
theorem Aio:Bw []:=⟨⟨1,by omega,λ x hx=>absurd hx zzj⟩,List.nodup_nil⟩
theorem Akl {v':Addr} {kvs:List (PV×PV)} {f:Bool} {es:List DictEntry} {n:Nat} {s':Shared} {t':TS} (st:St B J σ s.heap) (hk:∀ b o,s.heap.get? b=some o->s'.heap.get? b=some o) (m:Sm s s') (hn:s.heap.get? v'=none) (hx:(v'==sysModules)=false) (ho:s'.heap.get? v'=some (dictOf es n))
  (hko:Bw kvs) (hf:f=true->n=kvs.length) (r:Bg B.w J s.heap kvs es) (hp:Put σ.t t' σ.n (.dict kvs f)):Nx B Ao J s (J.add v') ⟨σ.n+1,t'⟩ s'/\Ae (J.add v') s'.heap (.obj σ.n) (.ref v'):=by
 have g0:=Yg (J:=J) hk hn
 obtain ⟨g,st'⟩:=st.grown (po:=.dict kvs f) hk hn hx ho hp ⟨⟨rfl,rfl,rfl⟩,hko,es,n,rfl,hf,r.grow0 g0.toGrow0 (Ab _ _) st.idOk⟩
 exact ⟨⟨g,m,st',st.idOk,Ab _ _⟩,Vi (Ql st _)⟩
theorem Aon {a:Addr} {T:String} {l:List PV} {us:List Value} {κ:List (PV×PV)->Bool} {Q:Value->Shared->Prop} {E:Value->Shared->Prop} {o:Obj} {n:Nat} (hR:Cc A 0) (st:St B J σ s.heap) (hT:T="list"\/T="tuple") (ho:s.heap.get? a=some o) (hc:o.cls=.type T) (hd:o.dict=none) (hda:o.data=.seq us.toArray n)
  (r:RepL J s.heap l us) (e:Aby l [] κ=true) (hz:l.length≤Bv)
  (hQ:∀ v' s' kvs es,κ kvs=true->(∀ b o,s.heap.get? b=some o->s'.heap.get? b=some o)->Sm s s'->s.heap.get? v'=none->(v'==sysModules)=false->s'.heap.get? v'=some (dictOf es kvs.length)->Bw kvs->Bg B.w J s.heap kvs es->Q (.ref v') s'):
  wpAny (model B.prog B.w) A (call (.type "dict") [.ref a]) Q E s:=by
 refine callType_codes (Q₁:=λ obj s₁=>obj=.ref s.heap.objs.size/\s₁={s with heap:=s.heap.push {cls:=.type "dict",data:=.dict #[]}}) F.kt_called_dict (F.kt_typeCall_dict_1 _) F.entry_dict_init (kt_code_dict_new _ ⟨rfl,rfl⟩) ?_
 rintro obj s₁ ⟨rfl,rfl⟩
 have hnew:(s.heap.push {cls:=.type "dict",data:=.dict #[]}).get? s.heap.objs.size=some (dictOf [] 0):=zzd _ rfl
 have kk:=Aw s.heap {cls:=.type "dict",data:=.dict #[]}
 have hDn:s.heap.get? s.heap.objs.size=none:=Heap.get?_none_of_le (Nat.le_refl _)
 have haD:a≠s.heap.objs.size:=λ q=>nomatch (q▸hDn).symm.trans ho
 have hTD:Shared.TypeIs {s with heap:=s.heap.push {cls:=.type "dict",data:=.dict #[]}} (.ref s.heap.objs.size) "dict":=⟨_,hnew,rfl⟩
 refine ⟨hTD,F.args_dict_init_2 _ _,?_⟩
 unfold Builtin.«dict.__init__»
 refine zza ?_
 unfold Builtin.Dict.selfAndRest
 refine zza (wpAny_notOrdered_dict hTD ?_)
 show wpAny _ _ (pure (s.heap.objs.size,[Value.ref a])) _ _ _
 refine zzb ?_
 show wpAny _ _ (Builtin.Dict.updateFrom "dict.__init__" s.heap.objs.size (.ref a) [] .none) _ _ _
 unfold Builtin.Dict.updateFrom
 refine zza (wpAny_typeOf (T:=T) ⟨o,kk _ _ ho,hc⟩ ?_)
 rw [if_pos (by rcases hT with rfl|rfl<;>decide)]
 have fin:∀ (s2:Shared) (I:Addr) (at_:Nat->Heap->Prop),(∀ b o,s.heap.get? b=some o->s2.heap.get? b=some o)->Sm s s2->s2.heap.get? s.heap.objs.size=some (dictOf [] 0)->s.heap.get? I=none->s.heap.objs.size≠I->Nxt B.prog B.w A.in1.in1 I s.heap.objs.size us at_->at_ 0 s2.heap ->
   codeAny (model B.prog B.w) A.in1 (.builtin "dict.update.loop" ⟨[.ref s.heap.objs.size,.ref I,.int ((0:Nat):Int) 0,.none],[]⟩) (wants (λ r s₂=>r=.none/\Q (.ref s.heap.objs.size) s₂) E) s2:=λ s2 I at_ k2 m2 hD2 hI hDI W ha=>
  Ahd (A:=A.in1) (J:=J) (s0:=s) (κ:=κ) W hI hDI hDn st.idOk (by have:=hR.2.1;show A.units+1+40<cLine;omega) (λ s' kvs es' e k3 m3 hD3 hko hrd=>⟨rfl,hQ _ s' kvs es' e k3 m3 hDn st.big hD3 hko hrd⟩) l 0 0 s2 [] [] r ha k2 m2 hD2 Aio .nil e (by rw [List.length_nil,Nat.zero_add];exact hz)
 rcases hT with rfl|rfl
 ·refine zza (Aip (kk _ _ ho) hc hda hd hR.2.2 λ h1 tk1 k1=>zza (wpAny_rule (zza (wpAny_pyIter_list ⟨o,k1 _ _ (kk _ _ ho),hc,n,hda⟩ (zza (zzb (zzb ⟨plainId_quiet Cv _,?_⟩)))))))
  exact fin {s with heap:=h1.push {cls:=.type "list_iterator",data:=.fields #[.ref a,.int 0 0]},toks:=tk1} _ _ (λ b o e=>Aw h1 _ b o (k1 b o (kk b o e))) (by exact ⟨rfl,rfl⟩) (Aw h1 _ _ _ (k1 _ _ hnew)) (Yb (λ b o e=>k1 b o (kk b o e))) (Nat.ne_of_lt (Heap.lt_size (k1 _ _ hnew))) (Agg (A:=A.in1.in1) hR.2.2 (Ne.symm (Nat.ne_of_lt (Heap.lt_size (k1 _ _ hnew)))) haD (Nat.ne_of_lt (Heap.lt_size (k1 _ _ (kk _ _ ho))))) (by exact ⟨⟨_,zzd _ rfl,rfl,rfl⟩,⟨o,Aw h1 _ _ _ (k1 _ _ (kk _ _ ho)),hc,n,hda⟩⟩)
 ·refine zza (Af6 (kk _ _ ho) hc hda hd hR.2.2 λ h1 tk1 k1=>zza (wpAny_rule (zza (wpAny_pyIter_tuple ⟨o,k1 _ _ (kk _ _ ho),hc,n,hda⟩ (zza (zzb (zzb ⟨plainId_quiet Cv _,?_⟩)))))))
  exact fin {s with heap:=h1.push {cls:=.type "tuple_iterator",data:=.fields #[.ref a,.int 0 0]},toks:=tk1} _ _ (λ b o e=>Aw h1 _ b o (k1 b o (kk b o e))) (by exact ⟨rfl,rfl⟩) (Aw h1 _ _ _ (k1 _ _ hnew)) (Yb (λ b o e=>k1 b o (kk b o e))) (Nat.ne_of_lt (Heap.lt_size (k1 _ _ hnew))) (Atc (A:=A.in1.in1) hR.2.2 (Ne.symm (Nat.ne_of_lt (Heap.lt_size (k1 _ _ hnew)))) haD (Nat.ne_of_lt (Heap.lt_size (k1 _ _ (kk _ _ ho))))) (by exact ⟨⟨_,zzd _ rfl,rfl,rfl⟩,⟨o,Aw h1 _ _ _ (k1 _ _ (kk _ _ ho)),hc,n,hda⟩⟩)
theorem A59 {h:Heap} {a:Addr} {vs:Array Value} (t:IsTup h a vs) (d:NoD h a):∃ o n,h.get? a=some o/\o.cls=.type "tuple"/\o.dict=none/\o.data=.seq vs n:=by
 obtain ⟨o,e,c,n,d1⟩:=t
 obtain ⟨o2,e2,d2⟩:=d
 cases e.symm.trans e2
 exact ⟨o,n,e,c,d2,d1⟩
def Ab6:Fn:=λ ps σ k=>on1 ps λ p=>
 let c:=λ l=>bC false (Aby l [] λ kvs=>Am (.dict kvs true) σ λ i σ=>k (.obj i) σ) (An l)
 vC false F1 F1 F1 c F1 F2 (λ i=>Ys i σ c λ kvs Z=>bC false (bC false (Am (.dict kvs false) σ λ i σ=>k (.obj i) σ) (An kvs)) (Bj kvs)) F1 p
theorem Aqn:SBt B "dict" Ab6:=λ A s J σ ps vs hR st r k Q E e hQ=>Oc e λ p hp e=>by
 subst hp
 refine r.one λ v hv rv=>?_
 subst hv
 have key:∀ {l:List PV} {a:Addr} {T:String} {us:List Value} {o:Obj} {n:Nat},T="list"\/T="tuple"->s.heap.get? a=some o->o.cls=.type T->o.dict=none->o.data=.seq us.toArray n->RepL J s.heap l us->bC false (Aby l [] λ kvs=>Am (.dict kvs true) σ λ i σ=>k (.obj i) σ) (An l)=true ->
   wpAny (model B.prog B.w) A (call (.type "dict") [.ref a]) Q E s:=λ {l a T us o n} hT ho hc hd hda r e=>Bs e λ hz e=>Aon hR st hT ho hc hd hda r e (Ap hz) λ v' s' kvs es e hk m hn hx hD hko hr=>Dy e λ t' hp e=>
  n2 (Akl st hk m hn hx hD hko (λ Z=>rfl) hr hp) λ y r=>hQ (.ref v') s' _ (.obj σ.n) _ e y r
 have dic:∀ {i:Nat} {a:Addr},J.l[i]?=some a->V0 i σ (λ kvs Z=>bC false (bC false (Am (.dict kvs false) σ λ i σ=>k (.obj i) σ) (An kvs)) (Bj kvs))=true->wpAny (model B.prog B.w) A (call (.type "dict") [.ref a]) Q E s:=λ {i a} ea e=>Eo (k:=λ kvs Z=>bC false (bC false (Am (.dict kvs false) σ λ i σ=>k (.obj i) σ) (An kvs)) (Bj kvs)) e st ea λ kvs f o es n e Z ho hc hk hd Z rd=>Bs e λ hs e=>Bs e λ hz e=>by
  have hof:s.heap.DictOf (PySem.strKind B.prog B.w) a (F6 kvs es):=by
   obtain ⟨o,es',ho,r⟩:=Fp (prog:=B.prog) (Bm hc hd▸ho) hk rd hs
   exact ⟨o,es',n,ho,r⟩
  refine kt_call_dict (st.low a (Aj.at ea)) hof (by rw [Cu rd];exact Nat.le_trans (Ap hz) B0) λ h' hd hsb=>?_
  obtain ⟨o,es',ep,ho,x1,x2,x3,x4,x5⟩:=hd
  have hrd:Bg B.w J s.heap kvs es'.toList:=Ai3 rd (C1 hs hk) (λ e he=>x3 e (by simpa using he)) x4
  exact Dy e λ t' hp e=>n2 (Akl (f:=false) (s':={s with heap:=h'}) (es:=es'.toList) (n:=ep) st (λ b o e=>hsb.extBut b o (Nat.ne_of_lt (Heap.lt_size e)) (Heap.get?_push_of_some _ e)) (by exact ⟨rfl,rfl⟩) (Heap.get?_none_of_le (Nat.le_refl _)) st.big (by exact Bm x1 (by rw [x2])▸ho) hk (λ q=>nomatch q) hrd hp) λ y r=>hQ _ _ _ (.obj σ.n) _ e y r
 cases p with
 | tup l=>exact Cw rv λ a us Z nd ta ra=>Exists.elim (A59 ta nd) λ o q=>Exists.elim q λ n q=>key (.inr rfl) q.1 q.2.1 q.2.2.1 q.2.2.2 ra e
 | obj i=>exact F7 rv λ a ea=>Yt e (λ e=>Cp (k:=λ l=>bC false (Aby l [] λ kvs=>Am (.dict kvs true) σ λ i σ=>k (.obj i) σ) (An l)) e st ea λ l o us n e Z ho hc hd Z hda rl=>key (.inl rfl) ho hc hd hda rl e) (dic ea)
 | _=>exact ff e
end
end
section
set_option tactic.hygienic true
inductive Dc (w:World) (J:Aj) (h:Heap):List PV->List (Int×Value)->Prop
 | nil:Dc w J h [] []
 | cons {p:PV} {e:Int×Value} {l:List PV} {es:List (Int×Value)}:Ae J h p e.2->e.1=Ah w p->Dc w J h l es->Dc w J h (p::l) (e::es)
section
variable {w:World} {J:Aj} {h:Heap}
theorem Dc.perm {es es':List (Int×Value)} (pm:List.Perm es es'):∀ {l:List PV},Dc w J h l es->∃ l',l'.Perm l/\Dc w J h l' es':=by
 induction pm with
 | nil=>intro l r;exact ⟨l,List.Perm.refl _,r⟩
 | cons x _ ih=>
  intro l r
  cases r with
  | cons a b c=>
   obtain ⟨l',p,r⟩:=ih c
   exact ⟨_::l',p.cons _,.cons a b r⟩
 | swap x y l0=>
  intro l r
  cases r with
  | cons a b c=>
   cases c with
   | cons a' b' c'=>exact ⟨_,List.Perm.swap _ _ _,.cons a' b' (.cons a b c')⟩
 | trans _ _ ih1 ih2=>
  intro l r
  obtain ⟨l1,p1,r1⟩:=ih1 r
  obtain ⟨l2,p2,r2⟩:=ih2 r1
  exact ⟨l2,p2.trans p1,r2⟩
theorem Dc.repL {l:List PV} {es:List (Int×Value)} (r:Dc w J h l es):RepL J h l (es.map (·.2)):=by
 induction r with
 | nil=>exact Cx
 | cons a _ _ ih=>exact Bd a ih
theorem Dc.length {l:List PV} {es:List (Int×Value)} (r:Dc w J h l es):es.length=l.length:=by
 induction r with
 | nil=>rfl
 | cons _ _ _ ih=>simp [ih]
theorem Dc.mem {l:List PV} {es:List (Int×Value)} (r:Dc w J h l es):∀ e∈es,∃ p∈l,Ae J h p e.2/\e.1=Ah w p:=by
 induction r with
 | nil=>intro e he;cases he
 | cons a b _ ih=>
  intro e he
  rcases List.mem_cons.mp he with rfl|he
  ·exact ⟨_,zzf,a,b⟩
  ·obtain ⟨p,hp,x⟩:=ih e he;exact ⟨p,zze _ hp,x⟩
theorem Dc.mem' {l:List PV} {es:List (Int×Value)} (r:Dc w J h l es):∀ p∈l,∃ e∈es,Ae J h p e.2/\e.1=Ah w p:=by
 induction r with
 | nil=>intro e he;cases he
 | cons a b _ ih=>
  intro p hp
  rcases List.mem_cons.mp hp with rfl|hp
  ·exact ⟨_,zzf,a,b⟩
  ·obtain ⟨e,he,x⟩:=ih p hp;exact ⟨e,zze _ he,x⟩
theorem Dc.snoc {l:List PV} {es:List (Int×Value)} (r:Dc w J h l es) {p:PV} {e:Int×Value} (a:Ae J h p e.2) (b:e.1=Ah w p):Dc w J h (l++[p]) (es++[e]):=by
 induction r with
 | nil=>exact .cons a b .nil
 | cons a' b' _ ih=>exact .cons a' b' ih
end
theorem Mt {t:SetTable} {n:Nat} (h:Pd t n) {hashAt:Nat->Int} {hh:Int}:∀ (f:Nat) (p:SetTable.Probe) (j:Nat) (d:Option Nat),p.dummy=none->SetTable.probe.go t hashAt hh f p=some (.empty j d)->j∉t.place.toList/\d=none
 | 0,p,j,d,hp,e=>by unfold SetTable.probe.go at e;cases e
 | f+1,p,j,d,hp,e=>by
  unfold SetTable.probe.go at e
  rw [h.slot] at e
  by_cases hj:p.j∈t.place.toList
  ·rw [if_pos hj] at e
   dsimp only at e
   split at e
   ·cases e
   ·refine Mt h f _ j d ?_ e
    unfold SetTable.advance
    split
    ·exact hp
    ·exact hp
  ·rw [if_neg hj] at e
   dsimp only at e
   cases e
   exact ⟨hj,hp⟩
theorem Pd.standIn {t:SetTable} (n:Nat) (hd:t.dummies=#[]):Pd (t.standIn n) n where
 rise:=by
  show Qa (Array.range n).toList
  simp only [Array.toList_range]
  exact List.pairwise_lt_range
 size:=by show (Array.range n).size=n;simp
 fit:=by show n≤4*n+4;omega
 dum:=rfl
theorem Pd.layNew {t:SetTable} {es:Array (Int×Value)} (h:Pd t es.size) (hh:Int) (x:Value):
  Pd (layNew t es hh x).2.1 (layNew t es hh x).1.size/\(layNew t es hh x).2.1.led=t.led/\(layNew t es hh x).2.2.1=false:=by
 unfold PySem.layNew
 split
 ·rename_i slot wd hf
  unfold SetTable.freeSlot at hf
  split at hf
  ·rename_i j d hp
   cases hf
   obtain ⟨hj,rfl⟩:=Mt h _ _ _ _ rfl hp
   simp only [Option.getD_none,Option.isSome_none]
   obtain ⟨p1,p2⟩:=h.put hj
   rw [p1,p2]
   have hs:(SetTable.insertAt es (Bc t.place.toList j) (hh,x)).size=es.size+1:=by
    have:=(SetTable.insertAt_perm es (Bc t.place.toList j) (hh,x)).length_eq
    simpa using this
   unfold SetTable.orStandIn
   split
   ·rename_i hfit
    rw [hs] at hfit ⊢
    refine ⟨h.insert hj ?_,rfl,by trivial⟩
    unfold SetTable.fits SetTable.fill at hfit
    rw [Bool.and_eq_true,beq_iff_eq,decide_eq_true_eq] at hfit
    have h1:=hfit.1
    have h2:=hfit.2
    dsimp only at h1 h2
    omega
   ·exact ⟨Pd.standIn _ h.dum,rfl,by trivial⟩
  ·cases hf
 ·refine ⟨?_,rfl,rfl⟩
  have:(es.push (hh,x)).size=es.size+1:=by simp
  rw [this]
  exact Pd.standIn _ h.dum
theorem Mx {f:Nat->Option (Nat×Nat)} (hf:∀ j x,f j=some x->x.1=j):∀ {l:List Nat},Qa l->Qa ((l.filterMap f).map (·.1))
 | [],_=>List.Pairwise.nil
 | a::l,h=>by
  have h1:=List.pairwise_cons.mp h
  rw [List.filterMap_cons]
  have ih:=Mx hf h1.2
  split
  ·exact ih
  ·rename_i x hx
   rw [List.map_cons]
   refine List.pairwise_cons.mpr ⟨λ y hy=>?_,ih⟩
   obtain ⟨z,hz,rfl⟩:=List.mem_map.mp hy
   obtain ⟨b,hb,e⟩:=List.mem_filterMap.mp hz
   rw [hf a x hx,hf b z e]
   exact h1.1 b hb
theorem Pd.relayAll {t:SetTable} {es:Array (Int×Value)} (h:Pd t es.size) (wanted:Nat):
  Pd (relayAll t es wanted).2.1 (relayAll t es wanted).1.size/\(relayAll t es wanted).2.1.led=t.led:=by
 unfold PySem.relayAll
 split
 ·rename_i t' order hr
  dsimp only
  split
  ·rename_i hc
   rw [Bool.and_eq_true] at hc
   unfold SetTable.relaid SetTable.laid at hr
   obtain ⟨owner,ho,hr⟩:=Option.bind_eq_some_iff.mp hr
   cases hr
   have hfit:=hc.2
   unfold SetTable.fits SetTable.fill at hfit
   rw [Bool.and_eq_true,beq_iff_eq,decide_eq_true_eq] at hfit
   refine ⟨⟨?_,hfit.1,?_,rfl⟩,rfl⟩
   ·show Qa (List.toArray _).toList
    simp only
    exact Mx (λ j x hx=>by
     cases e:owner.getD j none with
     | none=>rw [e] at hx;cases hx
     | some k=>rw [e] at hx;cases hx;rfl) List.pairwise_lt_range
   ·have h2:=hfit.2
    have h1:=hfit.1
    dsimp only at h1 h2 ⊢
    omega
  ·exact ⟨Pd.standIn _ h.dum,rfl⟩
 ·exact ⟨Pd.standIn _ h.dum,rfl⟩
end
section
abbrev My (es:Array (Int×Value)) (ep:Nat) (t:SetTable):Obj:={cls:=.type "set",dict:=none,data:=.set es ep t}
def Iy (w:World) (X:SetTable->List (Int×Value)->Prop) (h:Heap) (S:Addr) (led:Bool) (J:Aj) (h0:Heap) (l:List PV):Prop:=
 ∃ es ep t,h.get? S=some (My es ep t)/\Pd t es.size/\t.led=led/\Dc w J h0 l es.toList/\X t es.toList
def noX:SetTable->List (Int×Value)->Prop:=λ Z Z=>True
section
variable {prog:Program} {w:World} {A:Around} {E:Value->Shared->Prop} {s:Shared} {S:Addr} {led:Bool} {J:Aj} {h0:Heap} {l:List PV}
theorem Ad4 {h:Heap} {es es':Array (Int×Value)} {ep:Nat} {t t':SetTable} (ho:h.get? S=some (My es ep t)):(h.update S (Obj.putSet es' t')).get? S=some (My es' (ep+1) t'):=by
 have:=Heap.get?_update_self (Obj.putSet es' t') ho rfl
 exact this
theorem Ag2 {K:Type} [DecidableEq K] {knd:KeyKind prog w K} {k:K} {p:PV} {v:Value} {Q:Bool->Shared->Prop} (hkey:knd.is k v=true) (hsc:v.scannable=true) (hhash:knd.hash k=Ah w p)
  (st:Iy w noX s.heap S led J h0 l) (rp:Ae J h0 p v) (hel:∀ es,Dc w J h0 l es->ElemsOf knd es) (hidx:∀ es,Dc w J h0 l es->(es.findIdx? (λ e=>knd.is k e.2)=none↔p∉l)) (hn:l.length+1<scanBound)
  (h:∀ h' l' b,Heap.SameBut S s.heap h'->Iy w noX h' S led J h0 l'->(p∈l->l'=l)->(p∉l->l'.Perm (l++[p]))->Q b {s with heap:=h'}):
  wpAny (model prog w) A (setAddHashed S v (Ah w p)) Q E s:=by
 obtain ⟨es,ep,t,ho,ht,hled,rs,_⟩:=st
 rw [<- hhash]
 have hel:=hel _ rs
 have hidx:=hidx _ rs
 have hsz:es.size=l.length:=by rw [<- rs.length];simp
 have hb:es.size<scanBound:=by omega
 unfold setAddHashed setAddHashedIn
 refine zzg (zza (wpAny_setState_of ho rfl ht.fits ?_))
 dsimp only
 rw [byScan_of hsc hb hel]
 simp only [↓reduceIte]
 unfold setAddByScan
 refine zza ?_
 refine zza (wpAny_rule ?_)
 refine zza (wpAny_setScan_of hkey ho rfl ht.fits hel ?_)
 cases hr:List.findIdx? (λ e=>knd.is k e.2) es.toList with
 | some j=>
  dsimp only
  have hm:p∈l:=by
   by_cases hp:p∈l
   ·exact hp
   ·rw [hidx.mpr hp] at hr;cases hr
  refine zzb (zzb ?_)
  exact h s.heap l _ (Heap.SameBut.refl _ _) ⟨es,ep,t,ho,ht,hled,rs,trivial⟩ (λ Z=>rfl) (λ q=>absurd hm q)
 | none=>
  dsimp only
  have hm:p∉l:=hidx.mp hr
  have hgw:∀ (b:Bool) {s₁:Shared} {Q':Unit->Shared->Prop},Q' () s₁->wpAny (model prog w) A (match b with|true=>rule "set.scan.the-table-gave-way"|false=>pure ()) Q' E s₁:=
   λ b s₁ Q' hq=>by cases b<;>first|exact zzb hq|exact wpAny_rule hq
  have hperm:=layNew_perm t es (knd.hash k) v
  have htbl:=ht.layNew (knd.hash k) v
  generalize hL:layNew t es (knd.hash k) v=L at hperm htbl ⊢
  obtain ⟨es1,t1,wasDummy,gave⟩:=L
  dsimp only at hperm htbl ⊢
  obtain ⟨ht1,hl1,_⟩:=htbl
  rw [Array.toList_push] at hperm
  obtain ⟨l1,pl1,rs1⟩:=(rs.snoc (e:=(knd.hash k,v)) rp hhash).perm hperm.symm
  have hsz1:es1.size=l.length+1:=by
   have:=hperm.length_eq
   simp at this;omega
  have hb1:es1.size<scanBound:=by omega
  refine zza (hgw _ ?_)
  have tail:∀ (t2:SetTable),Pd t2 es1.size->t2.led=led->∀ {g:Bool->Sem Unit},(∀ (b:Bool) (s₁:Shared) (Q':Unit->Shared->Prop),Q' () s₁->wpAny (model prog w) A (g b) Q' E s₁) ->
    wpAny (model prog w) A (do
     storeSet S es1 t2
     if (!wasDummy&&t2.tooFull)=true then do
       g (relayAll t2 es1 (SetTable.grown es1.size)).2.2
       storeSet S (relayAll t2 es1 (SetTable.grown es1.size)).1 (relayAll t2 es1 (SetTable.grown es1.size)).2.1
       pure (some true)
      else pure (some true)) (λ a s'=>wpAny (model prog w) A (match a with|some added=>pure added|none=>setAddHashedIn S v (knd.hash k) 99999) Q E s') E s:=by
   intro t2 h2 hl2 g hg
   refine zza (wpAny_storeSet_of ho rfl ?_ (fits_of_scanBound hb1))
   have ho1:=Ad4 (es':=es1) (t':=t2) ho
   have hsb1:=Heap.SameBut.update s.heap S (Obj.putSet es1 t2)
   split
   ·have hp:=relayAll_perm t2 es1 (SetTable.grown es1.size)
    have hfr:=h2.relayAll (SetTable.grown es1.size)
    generalize hRl:relayAll t2 es1 (SetTable.grown es1.size)=Rl at hp hfr ⊢
    obtain ⟨es2,t3,gave2⟩:=Rl
    dsimp only at hp hfr ⊢
    have hsz2:es2.size=es1.size:=by rw [<- Array.length_toList,hp.length_eq,Array.length_toList]
    obtain ⟨l2,pl2,rs2⟩:=rs1.perm hp.symm
    refine zza (hg _ _ _ ?_)
    refine wpAny_bind (wpAny_storeSet_of ho1 rfl ?_ (fits_of_scanBound (by rw [hsz2];exact hb1)))
    have ho2:=Ad4 (es':=es2) (t':=t3) ho1
    refine zzb (zzb ?_)
    refine h _ l2 _ (hsb1.trans (Heap.SameBut.update _ S _)) ⟨es2,_,t3,ho2,hfr.1,hfr.2.trans hl2,rs2,trivial⟩ (λ q=>absurd q hm) λ Z=>pl2.trans pl1
   ·refine zzb (zzb ?_)
    refine h _ l1 _ hsb1 ⟨es1,_,t2,ho1,h2,hl2,rs1,trivial⟩ (λ q=>absurd q hm) λ Z=>pl1
  have hg:∀ (b:Bool) (s₁:Shared) (Q':Unit->Shared->Prop),Q' () s₁->wpAny (model prog w) A (match b with|true=>rule "set.scan.the-table-gave-way"|false=>pure ()) Q' E s₁:=λ b s₁ Q' hq=>by cases b<;>first|exact zzb hq|exact wpAny_rule hq
  split
  ·refine zza ?_
   rw [hashByValue_scannable 8 hsc]
   refine zzb ?_
   refine tail _ ?_ ?_ hg
   ·split
    ·exact ht1
    ·exact ⟨ht1.rise,ht1.size,ht1.fit,ht1.dum⟩
   ·split
    ·exact hl1.trans hled
    ·exact hl1.trans hled
  ·refine zza (zzb ?_)
   simp only [↓reduceIte]
   exact tail _ ht1 (hl1.trans hled) hg
end
end
section
section
variable {prog:Program} {w:World} {A:Around} {E:Value->Shared->Prop} {J:Aj}
theorem Afn {A:Around}:∀ (n:Nat) (p:PV),hkB p n=true->∀ (m:Nat) (v:Value) (s:Shared) (Q:Bool->Shared->Prop),n≤m->Ae J s.heap p v->Q false s->wpAny (model prog w) A (ofAClassStatement m v) Q E s:=by
 refine Gl (P:=λ p n=>∀ (m:Nat) (v:Value) (s:Shared) (Q:Bool->Shared->Prop),n≤m->Ae J s.heap p v->Q false s->wpAny (model prog w) A (ofAClassStatement m v) Q E s)
  (λ x n m v s Q hm r h=>Ei r λ t=>by unfold ofAClassStatement;exact wpAny_pure h) (λ x n m v s Q hm r h=>Eh r λ t=>by unfold ofAClassStatement;exact wpAny_pure h) λ l n Z ih m v s Q hm r h=>Cw r λ a vs Z Z t rl=>?_
 cases m with
 | zero=>exact absurd hm (Nat.not_succ_le_zero _)
 | succ m=>
  obtain ⟨o,ho,hc,k,hd⟩:=t
  unfold ofAClassStatement
  refine zza (wpAny_typeOf (T:="tuple") ⟨o,ho,hc⟩ ?_)
  dsimp only
  rw [if_pos (by decide)]
  refine zza (zzb ?_)
  simp only [Bool.not_true,Bool.false_eq_true,if_false]
  refine zza (wpAny_seqItems ho hd (zza ?_))
  show wpAny _ _ (forIn vs.toArray _ _) _ _ s
  rw [<- Array.forIn_toList]
  refine wpAny_forIn_list _ (λ rest r s'=>r.1=none/\s'=s/\∃ l',(∀ q∈l',q∈l)/\RepL J s.heap l' rest) _ (λ v rest r s' hI=>?_) (λ r s' hI=>?_) _ _ ⟨rfl,rfl,l,λ Z h=>h,rl⟩
  ·obtain ⟨hr,rfl,l',hl',rl'⟩:=hI
   cases l' with
   | nil=>exact nomatch (rl':v::rest=[])
   | cons q l'=>
    obtain ⟨v',rest',e,r1,r2⟩:=(rl':∃ v' us',v::rest=v'::us'/\Ae J s'.heap q v'/\RepL J s'.heap l' us')
    cases e
    exact zza (ih q (hl' q zzf) m _ s' _ (Nat.le_of_succ_le_succ hm) r1 (zzb ⟨rfl,rfl,l',λ q hq=>hl' q (zze _ hq),r2⟩))
  ·obtain ⟨r1,r2⟩:=r
   obtain ⟨hr,rfl,_⟩:=hI
   cases hr
   exact zzb h
theorem Ah9 {A:Around}:∀ (n:Nat) (p:PV),hkB p n=true->∀ (m:Nat) (v:Value) (s:Shared) (Q:Bool->Shared->Prop),n≤m->Ae J s.heap p v->(∀ b,Q b s)->wpAny (model prog w) A (hashByValue m v) Q E s:=by
 refine Gl (P:=λ p n=>∀ (m:Nat) (v:Value) (s:Shared) (Q:Bool->Shared->Prop),n≤m->Ae J s.heap p v->(∀ b,Q b s)->wpAny (model prog w) A (hashByValue m v) Q E s)
  (λ x n m v s Q hm r h=>Ei r λ t=>by rw [hashByValue_scannable m rfl];exact wpAny_pure (h _)) (λ x n m v s Q hm r h=>Eh r λ t=>by rw [hashByValue_scannable m rfl];exact wpAny_pure (h _)) λ l n Z ih m v s Q hm r h=>Cw r λ a vs Z Z t rl=>?_
 cases m with
 | zero=>exact absurd hm (Nat.not_succ_le_zero _)
 | succ m=>
  obtain ⟨o,ho,hc,k,hd⟩:=t
  unfold hashByValue
  refine zza (wpAny_specialOf (T:="tuple") ⟨o,ho,hc⟩ F.slot_tuple_hash.lookup ?_)
  dsimp only
  refine zza (wpAny_seqItems ho hd (zza ?_))
  show wpAny _ _ (forIn vs.toArray _ _) _ _ s
  rw [<- Array.forIn_toList]
  refine wpAny_forIn_list _ (λ rest r s'=>r.1=none/\s'=s/\∃ l',(∀ q∈l',q∈l)/\RepL J s.heap l' rest) _ (λ v rest r s' hI=>?_) (λ r s' hI=>?_) _ _ ⟨rfl,rfl,l,λ Z h=>h,rl⟩
  ·obtain ⟨hr,rfl,l',hl',rl'⟩:=hI
   cases l' with
   | nil=>exact nomatch (rl':v::rest=[])
   | cons q l'=>
    obtain ⟨v',rest',e,r1,r2⟩:=(rl':∃ v' us',v::rest=v'::us'/\Ae J s'.heap q v'/\RepL J s'.heap l' us')
    cases e
    refine zza (ih q (hl' q zzf) m _ s' _ (Nat.le_of_succ_le_succ hm) r1 λ b=>?_)
    cases b with
    | true=>
     simp only [Bool.not_true,Bool.false_eq_true,if_false]
     exact zzb ⟨rfl,rfl,l',λ q hq=>hl' q (zze _ hq),r2⟩
    | false=>
     simp only [Bool.not_false,if_true]
     exact zzb (zzb (h _))
  ·obtain ⟨r1,r2⟩:=r
   obtain ⟨hr,rfl,_⟩:=hI
   cases hr
   exact zzb (h _)
theorem Aul {p:PV} {v:Value} {s:Shared} (hp:p.hk=true) (r:Ae J s.heap p v) {Q:Bool->Shared->Prop} (ys:List Value) (hy:∀ y∈ys,∃ q,PV.hk q=true/\Ae J s.heap q y) (h:Q false s):wpAny (model prog w) A (searchCouldBeSeen v ys) Q E s:=by
 have h68:6≤8:=by decide
 unfold searchCouldBeSeen
 refine zza ?_
 refine wpAny_forIn_list _ (λ rest r s'=>r.1=none/\s'=s/\∀ y∈rest,y∈ys) _ (λ y rest r' s' hI=>?_) (λ r s' hI=>?_) _ _ ⟨rfl,rfl,λ Z h=>h⟩
 ·obtain ⟨hr,rfl,hy'⟩:=hI
  obtain ⟨q,hq,rq⟩:=hy y (hy' y zzf)
  have next:∀ y∈rest,y∈ys:=λ y hy=>hy' y (zze _ hy)
  dsimp only
  refine wpAny_ite_split (λ Z=>zzb ⟨rfl,rfl,next⟩) λ Z=>?_
  refine zza (Y1 6 p hp 8 v s' _ h68 r ?_)
  simp only [Bool.not_true,Bool.false_eq_true,if_false]
  refine zza (Y1 6 q hq 8 y s' _ h68 rq ?_)
  simp only [Bool.not_true,Bool.false_eq_true,if_false]
  refine zza (Afn 6 p hp 8 v s' _ h68 r ?_)
  simp only [Bool.false_eq_true,if_false]
  refine zza (Afn 6 q hq 8 y s' _ h68 rq ?_)
  simp only [Bool.false_eq_true,if_false]
  exact zzb ⟨rfl,rfl,next⟩
 ·obtain ⟨r1,r2⟩:=r
  obtain ⟨hr,rfl,_⟩:=hI
  cases hr
  exact zzb h
end
end
section
theorem Dc.get {w:World} {J:Aj} {h:Heap} {l:List PV} {es:List (Int×Value)} (r:Dc w J h l es):∀ (i:Nat) (h1:i<l.length) (h2:i<es.length),Ae J h l[i] es[i].2/\es[i].1=Ah w l[i]:=by
 induction r with
 | nil=>intro i h1;cases h1
 | cons a b _ ih=>
  intro i h1 h2
  cases i with
  | zero=>exact ⟨a,b⟩
  | succ i=>exact ih i (by simpa using h1) (by simpa using h2)
theorem Ade {l:List Nat} (h:Qa l) {j:Nat} (hj:j∈l):∃ hc:Bc l j<l.length,l[Bc l j]=j:=by
 have:=(An8 h j).mpr hj
 exact List.getElem?_eq_some_iff.mp this
theorem Axy {l:List Nat} (h:Qa l) {i:Nat} (hi:i<l.length):Bc l l[i]=i:=by
 obtain ⟨hc,e⟩:=Ade h (List.getElem_mem hi)
 rcases Nat.lt_trichotomy (Bc l l[i]) i with q|q|q
 ·have:=List.pairwise_iff_getElem.mp h _ _ hc hi q;omega
 ·exact q
 ·have:=List.pairwise_iff_getElem.mp h _ _ hi hc q;omega
def X7 (t:SetTable) (es:List (Int×Value)):Prop:=t.mask=7/\∀ z∈t.place.toList.zip es,∃ k,(Cd z.2.1 k).1=z.1/\∀ k'<k,(Cd z.2.1 k').1∈t.place.toList
section
variable {prog:Program} {w:World} {A:Around} {E:Value->Shared->Prop} {s:Shared} {S:Addr} {J:Aj} {l:List PV} {p:PV} {v:Value} {es:Array (Int×Value)} {ep:Nat} {t:SetTable} {K0:Nat}
theorem A1k {A:Around} {p q:PV} {u v:Value} (hu:A.units+10<cLine) (hp:p.hk=true) (hq:q.hk=true) (r:Ae J s.heap p u) (r':Ae J s.heap q v):∃ b,(b=true↔p=q)/\EqT A s u v b:=by
 obtain ⟨b,h1,h2⟩:=Aov 6 p hp 6 q 10 (by decide) hq
 obtain ⟨c,e,x⟩:=Amm 10 p q u v (λ c=>c==b) hu ((h1 _).trans (beq_self_eq_true b)) r r'
 exact ⟨b,h2,eq_of_beq e▸x⟩
theorem Af4 {a:Addr} {Q:Bool->Shared->Prop} (h:Q true s):wpAny (model prog w) A (isSame (.ref a) (.ref a)) Q E s:=by
 unfold isSame
 dsimp only
 rw [if_pos (beq_self_eq_true a)]
 exact zzb h
theorem Anm {Q:SetFound->Shared->Prop} (hu:A.units+30<cLine) (ho:s.heap.get? S=some (My es ep t)) (ht:Pd t es.size) (hm:t.mask=7) (rs:Dc w J s.heap l es.toList) (hall:∀ q∈l,q.hk=true/\q.kd=3) (hp:p.hk=true) (rp:Ae J s.heap p v)
  (h0:(Cd (Ah w p) K0).1∉t.place.toList) (hb:∀ k'<K0,(Cd (Ah w p) k').1∈t.place.toList) (h20:K0≤20) (hthere:p∈l->Q (.there none) s):
  ∀ (d k fuel:Nat) (stand:Option SetTable.Probe),K0 - k=d->k≤K0->d<fuel->((stand=none/\k=0)\/stand=some (prb (Ah w p) k)) ->
   ((∀ k',k≤k'->k'<K0->l[Bc t.place.toList (Cd (Ah w p) k').1]?≠some p)->Q (.free (Cd (Ah w p) K0).1 false) s)->wpAny (model prog w) A (setSearchFrom S v (Ah w p) true fuel stand) Q E s:=by
 have hsz:es.size=l.length:=by rw [<- rs.length];simp
 have hpl:t.place.toList.length=es.size:=by rw [Array.length_toList];exact ht.size
 intro d
 induction d using Nat.strongRecOn with
 | ind d ih=>
 intro k fuel stand hd hk hf hst hfree
 cases fuel with
 | zero=>omega
 | succ fuel=>
 unfold setSearchFrom
 refine zza (wpAny_setState_of ho rfl ht.fits ?_)
 dsimp only
 have hgw:t.gaveWay=false:=by unfold SetTable.gaveWay;rw [hm];rfl
 rw [hgw]
 simp only [Bool.false_eq_true,if_false]
 have est:stand.getD (t.probeStart (Ah w p))=prb (Ah w p) k:=by
  rcases hst with ⟨rfl,rfl⟩|rfl
  ·exact Anb hm _
  ·rfl
 rw [est]
 unfold SetTable.probe
 have hfu:K0 - k<10*SetTable.turns t.mask:=by rw [hm];unfold SetTable.turns;omega
 rcases Akv (hashAt:=_) ht hm h0 hb (K0 - k) k (10*SetTable.turns t.mask) rfl hk hfu with ⟨k1,a,b,c,g,z⟩|⟨g,z⟩
 ·rw [g]
  dsimp only
  have hin:=hb k1 b
  obtain ⟨hc,ec⟩:=Ade ht.rise hin
  have hci:Bc t.place.toList (Cd (Ah w p) k1).1<es.size:=by omega
  have hce:Bc t.place.toList (Cd (Ah w p) k1).1<es.toList.length:=by simpa using hci
  have hcl:Bc t.place.toList (Cd (Ah w p) k1).1<l.length:=by omega
  obtain ⟨rq,eq⟩:=rs.get _ hcl hce
  have hq:=hall _ (List.getElem_mem hcl)
  have main:wpAny (model prog w) A (do
    let some (_,y):=es[Bc t.place.toList (Cd (Ah w p) k1).1]?|unsupported "internal:set-entry"
    let equal<-holding [y] (eqBool y v)
    let (es',_,t')<-setState S
    if true&&equal then return SetFound.there none
    let some same:=t'.sameMemory t.moves t.mask|unsupported "set.changed-during-lookup:is-the-new-block-at-the-old-address"
    let still<-match (if same then t'.slot (Cd (Ah w p) k1).1 else .empty) with
     | .live i'=>match es'[i']? with
      | some (_,y')=>do pure (if<-isSame y' y then some i' else none)
      | none=>pure none
     | _=>pure none
    match still with
    | none=>rule "set.search.anew";setSearchFrom S v (Ah w p) true fuel none
    | some i'=>if equal then return SetFound.there (some i') else setSearchFrom S v (Ah w p) true fuel (some (prb (Ah w p) (k1+1)))) Q E s:=by
   rw [Array.getElem?_eq_getElem hci]
   generalize hy:es[Bc t.place.toList (Cd (Ah w p) k1).1]=y
   obtain ⟨y1,y⟩:=y
   have hy2:es.toList[Bc t.place.toList (Cd (Ah w p) k1).1].2=y:=by rw [Array.getElem_toList,hy]
   rw [hy2] at rq
   dsimp only
   obtain ⟨cc,h2,h1⟩:=A1k (A:=A) (by omega) hq.1 hp rq rp
   refine zza (zzg (h1.e prog w E _ ?_))
   refine zza (wpAny_setState_of ho rfl ht.fits ?_)
   dsimp only
   cases cc with
   | true=>
    have e:=h2.mp rfl
    simp only [Bool.and_self,if_true]
    exact zzb (hthere (e▸List.getElem_mem hcl))
   | false=>
    have hne:l[Bc t.place.toList (Cd (Ah w p) k1).1]≠p:=λ e=>by have:=h2.mpr e;cases this
    simp only [Bool.and_false,Bool.false_eq_true,if_false]
    have hsm:t.sameMemory t.moves t.mask=some true:=by unfold SetTable.sameMemory;simp
    rw [hsm]
    dsimp only
    rw [if_pos rfl,ht.slot,if_pos hin]
    dsimp only
    rw [Array.getElem?_eq_getElem hci,hy]
    dsimp only
    obtain ⟨qq,hqq⟩:∃ qq,l[Bc t.place.toList (Cd (Ah w p) k1).1]=.tup qq:=by
     have:=hq.2
     cases he:l[Bc t.place.toList (Cd (Ah w p) k1).1] with
     | tup qq=>exact ⟨qq,rfl⟩
     | _=>rw [he] at this;cases this
    rw [hqq] at rq
    obtain ⟨ya,_,rfl,_⟩:=(rq:∃ a vs,y=.ref a/\(¬ J.has a/\NoD s.heap a)/\IsTup s.heap a vs.toArray/\RepL J s.heap qq vs)
    refine zza (Af4 (zza (zzb ?_)))
    rw [if_pos rfl]
    dsimp only
    refine ih (K0 - (k1+1)) (by omega) (k1+1) fuel _ rfl (by omega) (by omega) (.inr rfl) λ hno=>hfree λ k' x y'=>?_
    by_cases q1:k'<k1
    ·intro e
     have zz:=z k' x q1
     have hin':=hb k' y'
     obtain ⟨hc',ec'⟩:=Ade ht.rise hin'
     have hci':Bc t.place.toList (Cd (Ah w p) k').1<es.size:=by omega
     have hce':Bc t.place.toList (Cd (Ah w p) k').1<es.toList.length:=by simpa using hci'
     have hcl':Bc t.place.toList (Cd (Ah w p) k').1<l.length:=by omega
     rw [List.getElem?_eq_getElem hcl'] at e
     obtain ⟨_,eq'⟩:=rs.get _ hcl' hce'
     rw [Option.some.inj e] at eq'
     have:((es[Bc t.place.toList (Cd (Ah w p) k').1]?.map (·.1)).getD 0==Ah w p)=false:=zz
     rw [Array.getElem?_eq_getElem hci'] at this
     rw [Array.getElem_toList] at eq'
     simp [eq'] at this
    ·by_cases q2:k'=k1
     ·subst q2
      rw [List.getElem?_eq_getElem hcl]
      exact λ e=>hne (Option.some.inj e)
     ·exact hno k' (by omega) y'
  cases hled:t.led with
  | true=>
   simp only [Bool.not_true,Bool.false_eq_true,if_false]
   exact main
  | false=>
   simp only [Bool.not_false,if_true]
   refine zza (Aul hp rp _ (λ y hy=>?_) ?_)
   ·obtain ⟨e,he,rfl⟩:=List.mem_map.mp hy
    have he':e∈es.toList:=by
     have:e∈(es.filter λ x=>x.1==Ah w p).toList:=he
     rw [Array.toList_filter] at this
     exact (List.mem_filter.mp this).1
    obtain ⟨q,hq',r1,_⟩:=rs.mem e he'
    exact ⟨q,(hall q hq').1,r1⟩
   ·simp only [Bool.false_eq_true,if_false]
    exact main
 ·rw [g]
  dsimp only
  refine zzb (hfree λ k' x y e=>?_)
  have zz:=z k' x y
  have hin':=hb k' y
  obtain ⟨hc',ec'⟩:=Ade ht.rise hin'
  have hci':Bc t.place.toList (Cd (Ah w p) k').1<es.size:=by omega
  have hce':Bc t.place.toList (Cd (Ah w p) k').1<es.toList.length:=by simpa using hci'
  have hcl':Bc t.place.toList (Cd (Ah w p) k').1<l.length:=by omega
  rw [List.getElem?_eq_getElem hcl'] at e
  obtain ⟨_,eq'⟩:=rs.get _ hcl' hce'
  rw [Option.some.inj e] at eq'
  have:((es[Bc t.place.toList (Cd (Ah w p) k').1]?.map (·.1)).getD 0==Ah w p)=false:=zz
  rw [Array.getElem?_eq_getElem hci'] at this
  rw [Array.getElem_toList] at eq'
  simp [eq'] at this
end
end
section
theorem Dc.grow0 {w:World} {own:Addr->Prop} {J J':Aj} {h h':Heap} (g:Grow0 own J J' h h') (ho:A0 own J h) (hi:Do J h) {l:List PV} {es:List (Int×Value)} (x:Dc w J h l es):Dc w J' h' l es:=by
 induction x with
 | nil=>exact .nil
 | cons a b _ ih=>exact .cons (Im g ho hi _ _ a) b ih
theorem Dc.keepAll {w:World} {J:Aj} {h h':Heap} (hi:Do J h) (hk:∀ b o,h.get? b=some o->h'.get? b=some o) {l:List PV} {es:List (Int×Value)} (x:Dc w J h l es):Dc w J h' l es:=
 x.grow0 (Ch.keepAll (own:=Ao) hk).toGrow0 (Ab _ _) hi
theorem Ym {α β:Type} {a:List α} {b:List β} {z:α×β} {i:Nat} (h1:i<a.length) (h2:i<b.length) (e:z=(a[i],b[i])):z∈a.zip b:=by
 rw [List.mem_iff_getElem]
 exact ⟨i,by rw [List.length_zip];omega,by rw [List.getElem_zip,e]⟩
theorem Ail {α β:Type} {a:List α} {b:List β} (hl:a.length=b.length) (c:Nat) (x:α) (y:β) {z:α×β} (hz:z∈(a.take c++x::a.drop c).zip (b.take c++y::b.drop c)):z=(x,y)\/z∈a.zip b:=by
 rw [List.zip_append (by rw [List.length_take,List.length_take,hl])] at hz
 rcases List.mem_append.mp hz with hz|hz
 ·obtain ⟨i,hi,e⟩:=List.mem_iff_getElem.mp hz
  rw [List.getElem_zip,List.getElem_take,List.getElem_take] at e
  rw [List.length_zip,List.length_take,List.length_take] at hi
  exact .inr (Ym (i:=i) (by omega) (by omega) e.symm)
 ·rw [List.zip_cons_cons] at hz
  rcases List.mem_cons.mp hz with hz|hz
  ·exact .inl hz
  ·obtain ⟨i,hi,e⟩:=List.mem_iff_getElem.mp hz
   rw [List.getElem_zip,List.getElem_drop,List.getElem_drop] at e
   rw [List.length_zip,List.length_drop,List.length_drop] at hi
   exact .inr (Ym (i:=c+i) (by omega) (by omega) e.symm)
section
variable {prog:Program} {w:World} {A:Around} {E:Value->Shared->Prop} {s:Shared} {S:Addr} {led:Bool} {J:Aj} {h0:Heap} {l:List PV}
theorem Anq {p:PV} {v:Value} {Q:Bool->Shared->Prop} (hu:A.units+30<cLine) (st:Iy w X7 s.heap S led J h0 l) (hi:Do J h0) (hk:∀ b o,h0.get? b=some o->s.heap.get? b=some o) (hall:∀ q∈l,q.hk=true/\q.kd=3) (hp:p.hk=true) (hpk:p.kd=3) (rp:Ae J h0 p v)
  (hn:p∉l->l.length+1≤4)
  (h4:l.length≤4)
  (h:∀ h' l' b,Heap.SameBut S s.heap h'->Iy w X7 h' S led J h0 l'->(p∈l->l'=l)->(p∉l->l'.Perm (l++[p]))->Q b {s with heap:=h'}):
  wpAny (model prog w) A (setAddHashed S v (Ah w p)) Q E s:=by
 obtain ⟨es,ep,t,ho,ht,hled,rs,hm,hX⟩:=st
 have rs':=rs.keepAll hi hk
 have rp':Ae J s.heap p v:=Im (Ch.keepAll (own:=Ao) hk).toGrow0 (Ab _ _) hi _ _ rp
 have hsz:es.size=l.length:=by rw [<- rs.length];simp
 have hpl:t.place.toList.length=es.size:=by rw [Array.length_toList];exact ht.size
 obtain ⟨K0,h20,h0',hb⟩:=Afs (Ah w p) (l:=t.place.toList) (by omega)
 obtain ⟨qq,hqq⟩:∃ qq,p=.tup qq:=by cases p<;>first|exact ⟨_,rfl⟩|cases hpk
 obtain ⟨a,us,ev,_⟩:∃ a vs,v=.ref a/\(¬ J.has a/\NoD h0 a)/\IsTup h0 a vs.toArray/\RepL J h0 qq vs:=by
  subst hqq;exact rp
 unfold setAddHashed setAddHashedIn
 refine zzg (zza (wpAny_setState_of ho rfl ht.fits ?_))
 dsimp only
 have hbs:byScan v es=false:=by rw [ev];rfl
 rw [hbs]
 simp only [Bool.false_eq_true,if_false]
 unfold setSearch
 refine zza (Anm hu ho ht hm rs' hall hp rp' h0' hb h20 (λ hmem=>?_) (K0 - 0) 0 100000 none rfl (Nat.zero_le _) (by omega) (.inl ⟨rfl,rfl⟩) λ hno=>?_)
 ·dsimp only
  exact zzb (h s.heap l _ (Heap.SameBut.refl _ _) ⟨es,ep,t,ho,ht,hled,rs,hm,hX⟩ (λ Z=>rfl) (λ q=>absurd hmem q))
 ·dsimp only
  have hnot:p∉l:=λ hmem=>by
   obtain ⟨i,hil,ei⟩:=List.mem_iff_getElem.mp hmem
   have hie:i<es.toList.length:=by rw [rs.length];exact hil
   have hip:i<t.place.toList.length:=by rw [hpl];simpa using hie
   obtain ⟨_,eh⟩:=rs.get i hil hie
   rw [ei] at eh
   obtain ⟨k,e1,e2⟩:=hX (t.place.toList[i],es.toList[i]) (by
    rw [List.mem_iff_getElem]
    exact ⟨i,by rw [List.length_zip];omega,by rw [List.getElem_zip]⟩)
   dsimp only at e1 e2
   rw [eh] at e1 e2
   have hkK:k<K0:=by
    rcases Nat.lt_or_ge k K0 with q|q
    ·exact q
    ·exfalso
     by_cases q2:k=K0
     ·subst q2;rw [e1] at h0';exact h0' (List.getElem_mem hip)
     ·exact h0' (e2 K0 (by omega))
   refine hno k (Nat.zero_le _) hkK ?_
   rw [e1,Axy ht.rise hip,List.getElem?_eq_getElem hil,ei]
  have hn:=hn hnot
  refine zza (wpAny_setState_of ho rfl ht.fits ?_)
  obtain ⟨p1,p2⟩:=ht.put h0'
  dsimp only
  rw [p1,p2]
  have hperm:=SetTable.insertAt_perm es (Bc t.place.toList (Cd (Ah w p) K0).1) (Ah w p,v)
  rw [Array.toList_push] at hperm
  have hs1:(SetTable.insertAt es (Bc t.place.toList (Cd (Ah w p) K0).1) (Ah w p,v)).size=es.size+1:=by
   have:=hperm.length_eq
   simpa using this
  have ht1:=ht.insert h0' (by rw [hm];omega)
  obtain ⟨l1,pl1,rs1⟩:=(rs.snoc (e:=(Ah w p,v)) rp rfl).perm hperm.symm
  have hX1:∀ z∈(SetTable.insertAt t.place (Bc t.place.toList (Cd (Ah w p) K0).1) (Cd (Ah w p) K0).1).toList.zip (SetTable.insertAt es (Bc t.place.toList (Cd (Ah w p) K0).1) (Ah w p,v)).toList,
    ∃ k,(Cd z.2.1 k).1=z.1/\∀ k'<k,(Cd z.2.1 k').1∈(SetTable.insertAt t.place (Bc t.place.toList (Cd (Ah w p) K0).1) (Cd (Ah w p) K0).1).toList:=by
   have hsub:∀ x∈t.place.toList,x∈(SetTable.insertAt t.place (Bc t.place.toList (Cd (Ah w p) K0).1) (Cd (Ah w p) K0).1).toList:=λ x hx=>by
    have:=(SetTable.insertAt_perm t.place (Bc t.place.toList (Cd (Ah w p) K0).1) (Cd (Ah w p) K0).1).mem_iff (a:=x)
    rw [this,Array.toList_push]
    exact List.mem_append_left _ hx
   intro z hz
   rw [SetTable.toList_insertAt,SetTable.toList_insertAt] at hz
   rcases Ail (by rw [hpl];simp) _ _ _ hz with rfl|hz
   ·exact ⟨K0,rfl,λ k' hk'=>hsub _ (hb k' hk')⟩
   ·obtain ⟨k,e1,e2⟩:=hX z hz
    exact ⟨k,e1,λ k' hk'=>hsub _ (e2 k' hk')⟩
  have tail:∀ t2:SetTable,t2.place=SetTable.insertAt t.place (Bc t.place.toList (Cd (Ah w p) K0).1) (Cd (Ah w p) K0).1->t2.mask=7->t2.dummies=#[]->t2.led=led ->
    wpAny (model prog w) A (do
     storeSet S (SetTable.insertAt es (Bc t.place.toList (Cd (Ah w p) K0).1) (Ah w p,v)) t2
     if (!false&&t2.tooFull)=true then setRelay S (SetTable.grown (es.size+1))
     return true) Q E s:=by
   intro t2 e1 e2 e3 e4
   refine wpAny_bind (wpAny_storeSet_of ho rfl ?_ (by rw [hs1,sizeLine_eq];omega))
   have ho1:=Ad4 (es':=SetTable.insertAt es (Bc t.place.toList (Cd (Ah w p) K0).1) (Ah w p,v)) (t':=t2) ho
   have htf:t2.tooFull=false:=by
    unfold SetTable.tooFull SetTable.fill
    rw [e1,e2,e3]
    have:=ht1.size
    dsimp only at this
    rw [this]
    simp;omega
   rw [htf]
   simp only [Bool.and_false,Bool.false_eq_true,if_false]
   refine wpAny_pure (h _ l1 _ (Heap.SameBut.update _ S _) ⟨_,_,t2,ho1,⟨by rw [e1];exact ht1.rise,by rw [e1,hs1];exact ht1.size,by rw [hs1,e2];omega,e3⟩,e4,rs1,e2,by rw [e1];exact hX1⟩ (λ q=>absurd q hnot) λ Z=>pl1)
  split
  ·refine zza (Ah9 6 p hp 8 v s _ (by decide) rp' λ b=>?_)
   cases b
   ·exact tail _ rfl hm ht.dum hled
   ·exact tail _ rfl hm ht.dum hled
  ·refine zza (zzb ?_)
   exact tail _ rfl hm ht.dum hled
end
end
section
def U6 (w:World):Bool:=!(w.params.followText "set-order")
def XK (k:Nat):SetTable->List (Int×Value)->Prop:=if k=3 then X7 else noX
theorem An2:XK 3=X7:=if_pos rfl
theorem Afd {k:Nat} (h:k≠3):XK k=noX:=if_neg h
def OfK (k:Nat) (l:List PV):Prop:=∀ q∈l,q.hk=true/\q.kd=k
section
variable {prog:Program} {w:World} {A:Around} {E:Value->Shared->Prop} {s:Shared} {S:Addr} {led:Bool} {J:Aj} {h0:Heap} {l:List PV}
theorem R3 {es:List (Int×Value)} {p:PV} {f:Value->Bool} (rs:Dc w J h0 l es) (hf:∀ q∈l,∀ v,Ae J h0 q v->(f v=true↔q=p)):es.findIdx? (λ e=>f e.2)=none↔p∉l:=by
 rw [List.findIdx?_eq_none_iff]
 constructor
 ·intro h hm
  obtain ⟨e,he,r,_⟩:=rs.mem' p hm
  exact nomatch (h e he).symm.trans ((hf p hm _ r).mpr rfl)
 ·intro h e he
  obtain ⟨q,hq,r,_⟩:=rs.mem e he
  cases hb:f e.2 with
  | false=>rfl
  | true=>exact absurd ((hf q hq _ r).mp hb▸hq) h
theorem Auo {k:Nat} {p:PV} {v:Value} {Q:Bool->Shared->Prop} (hu:A.units+30<cLine) (hk:kOk k) (st:Iy w (XK k) s.heap S led J h0 l) (hi:Do J h0) (hkeep:∀ b o,h0.get? b=some o->s.heap.get? b=some o)
  (hall:OfK k l) (hp:p.hk=true) (hpk:p.kd=k) (rp:Ae J h0 p v) (hn:l.length+1<4000) (h3:k=3->l.length≤4/\(p∉l->l.length+1≤4))
  (h:∀ h' tk l' b,Heap.SameBut S s.heap h'->Iy w (XK k) h' S led J h0 l'->(p∈l->l'=l)->(p∉l->l'.Perm (l++[p]))->Q b {s with heap:=h',toks:=tk}):
  wpAny (model prog w) A (setAdd S v) Q E s:=by
 have rp':Ae J s.heap p v:=Im (Ch.keepAll (own:=Ao) hkeep).toGrow0 (Ab _ _) hi _ _ rp
 have hsc:scanBound=4096:=rfl
 unfold setAdd
 refine zzg (zza (Tz 6 p hp v A s _ rp' (by omega) ?_))
 have fin:∀ h' l' b,Heap.SameBut S s.heap h'->Iy w (XK k) h' S led J h0 l'->(p∈l->l'=l)->(p∉l->l'.Perm (l++[p]))->Q b {s with heap:=h',toks:=s.toks+dr p}:=λ h' l' b=>h h' _ l' b
 rcases hk with rfl|rfl|rfl
 ·rw [Afd (by decide)] at st fin
  obtain ⟨x,rfl⟩:=Gz hpk
  have rp0:=rp
  obtain ⟨t,rfl⟩:∃ t,v=.str ⟨(Ba x).toArray⟩ t:=rp0
  refine Ag2 (s:={s with toks:=s.toks+dr (.str x)}) (knd:=PySem.strKind prog w) (k:=⟨(Ba x).toArray⟩) (p:=.str x) (beq_self_eq_true _) rfl rfl st rp (λ es rs e he=>?_) (λ es rs=>R3 rs λ q hq v rv=>?_) (by omega) λ h' l' b hs st' a1 a2=>fin h' l' b hs st' a1 a2
  ·obtain ⟨q,hq,r,eh⟩:=rs.mem e he
   obtain ⟨y,rfl⟩:=Gz (hall q hq).2
   obtain ⟨t',e2⟩:=(r:∃ t,e.2=.str ⟨(Ba y).toArray⟩ t)
   rw [e2]
   exact ⟨⟨⟨(Ba y).toArray⟩,beq_self_eq_true _,eh⟩,rfl⟩
  ·obtain ⟨y,rfl⟩:=Gz (hall q hq).2
   obtain ⟨t',rfl⟩:=(rv:∃ t,v=.str ⟨(Ba y).toArray⟩ t)
   show ((Str.mk (Ba y).toArray)==(Str.mk (Ba x).toArray))=true↔_
   rw [<- Fo]
   exact ⟨λ e=>by rw [Nat.eq_of_beq_eq_true e],λ e=>by cases e;exact Nat.beq_refl x⟩
 ·rw [Afd (by decide)] at st fin
  obtain ⟨x,rfl⟩:=Gy hpk
  have rp0:=rp
  obtain ⟨t,rfl⟩:∃ t,v=.int x t:=rp0
  refine Ag2 (s:={s with toks:=s.toks+dr (.int x)}) (knd:=PySem.intKind prog w) (k:=x) (p:=.int x) (beq_self_eq_true x) rfl rfl st rp (λ es rs e he=>?_) (λ es rs=>R3 rs λ q hq v rv=>?_) (by omega) λ h' l' b hs st' a1 a2=>fin h' l' b hs st' a1 a2
  ·obtain ⟨q,hq,r,eh⟩:=rs.mem e he
   obtain ⟨y,rfl⟩:=Gy (hall q hq).2
   obtain ⟨t',e2⟩:=(r:∃ t,e.2=.int y t)
   rw [e2]
   exact ⟨⟨y,beq_self_eq_true y,eh⟩,rfl⟩
  ·obtain ⟨y,rfl⟩:=Gy (hall q hq).2
   obtain ⟨t',rfl⟩:=(rv:∃ t,v=.int y t)
   show (y==x)=true↔_
   rw [beq_iff_eq]
   exact ⟨λ e=>by rw [e],λ e=>by cases e;rfl⟩
 ·rw [An2] at st fin
  exact Anq (s:={s with toks:=s.toks+dr p}) hu st hi hkeep hall hp hpk rp (h3 rfl).2 (h3 rfl).1 λ h' l' b hs st' a1 a2=>fin h' l' b hs st' a1 a2
end
def Am3 (p:PV) (l:List PV) (no yes:Bool):Bool:=@List.rec _ (λ Z=>Bool) no (λ q Z ih=>bC ih yes (D9 q p)) l
def Ho (l:List PV) (acc:List PV) (κ:List PV->Bool):Bool:=@List.rec _ (λ Z=>List PV->Bool) κ (λ x Z ih acc=>Am3 x acc (ih (x::acc)) (ih acc)) l acc
theorem Ala {p:PV} {no yes:Bool} {C:Prop}:∀ {l:List PV},(∀ q∈l,q.hk=true)->Am3 p l no yes=true->(p∉l->no=true->C)->(p∈l->yes=true->C)->C
 | [],_,e,H,_=>H zzj e
 | q::l,hl,e,H1,H2=>by
  have e:bC (Am3 p l no yes) yes (D9 q p)=true:=e
  have hq:=Tt (hl q zzf) p
  cases hb:D9 q p with
  | true=>rw [hb] at e;exact H2 (hq.mp hb▸List.mem_cons_self) e
  | false=>
   rw [hb] at e
   exact Ala (λ q hq=>hl q (zze _ hq)) e (λ n=>H1 λ m=>(List.mem_cons.mp m).elim (λ q=>nomatch hb.symm.trans (hq.mpr q.symm)) n) λ m=>H2 (zze _ m)
theorem Nu {κ:List PV->Bool}:∀ {l acc:List PV},OfK 3 l->OfK 3 acc->Ho l acc κ=true->∃ lf,κ lf=true/\acc.length≤lf.length
 | [],acc,_,_,e=>⟨acc,e,Nat.le_refl _⟩
 | x::l,acc,hl,ha,e=>Ala (λ q hq=>(ha q hq).1) (show Am3 x acc (Ho l (x::acc) κ) (Ho l acc κ)=true from e)
   (λ Z e=>(Nu (l:=l) (acc:=x::acc) (λ q hq=>hl q (zze _ hq)) (λ q hq=>(List.mem_cons.mp hq).elim (λ e=>e▸hl x zzf) (ha q)) e).elim λ lf q=>⟨lf,q.1,Nat.le_of_succ_le q.2⟩) λ Z e=>Nu (λ q hq=>hl q (zze _ hq)) ha e
def Akb (k:Nat) (l:List PV):Bool:=@List.rec _ (λ Z=>Bool) true (λ p Z ih=>bC false (bC false ih p.hk) (Nat.beq p.kd k)) l
theorem Afe {k:Nat}:∀ {l:List PV},Akb k l=true->OfK k l
 | [],_,p,hp=>absurd hp zzj
 | q::r,e,p,hp=>Bs (b:=Nat.beq q.kd k) (t:=bC false (Akb k r) q.hk) e λ e1 e=>Bs e λ e2 e=>(List.mem_cons.mp hp).elim (λ q=>q.symm▸⟨e2,zzh e1⟩) (Afe e p)
section
variable {B:Aq} {A:Around} {J:Aj} {S I:Addr} {led:Bool} {us:List Value} {at_:Nat->Heap->Prop} {R:Result->Shared->Prop} {s0:Shared} {κ:List PV->Bool} {k:Nat}
theorem Ag4 (hk:kOk k) (W:Nxt B.prog B.w A.in1 I S us at_) (hI:s0.heap.get? I=none) (hSI:S≠I) (hS0:s0.heap.get? S=none) (hi:Do J s0.heap) (hu:A.units+40<cLine) (h3:k=3->∀ l,κ l=true->l.length≤4)
  (hR:∀ s' l' lf,κ lf=true->(∀ b o,s0.heap.get? b=some o->s'.heap.get? b=some o)->Sm s0 s'->Iy B.w (XK k) s'.heap S led J s0.heap l'->l'.Perm lf->OfK k lf->lf.length≤1000->R (.ok (.ret .none)) s'):
  ∀ (l:List PV) (i:Nat) (s:Shared) (acc la:List PV),RepL J s0.heap l (us.drop i)->OfK k l->at_ i s.heap->(∀ b o,s0.heap.get? b=some o->s.heap.get? b=some o)->Sm s0 s->Iy B.w (XK k) s.heap S led J s0.heap la->la.Perm acc->Ho l acc κ=true->acc.length+l.length≤1000->OfK k acc ->
   codeAny (model B.prog B.w) A (.builtin "set.update.loop" ⟨[.ref S,.ref I],[]⟩) R s
 | [],i,s,acc,la,r,hl,ha,kk,sm,hS,pm,e,hz,hacc=>by
  refine codeAny_builtin PyProof.Rows.F.entry_set_update_loop ?_
  rw [Around.under_plainId PyProof.Rows.F.plain_set_update_loop _]
  show wpAny _ A.in1 (pyNext (.ref I) >>= _) _ _ s
  refine zza (W.done i s _ _ ha (Hp (show us.drop i=[] from r)) λ h' hx=>zzb (hR {s with heap:=h'} la acc e (λ b o e=>hx b o (λ q=>nomatch (q▸hI).symm.trans e) (kk b o e)) ⟨sm.gens,sm.os⟩ ?_ pm hacc hz))
  obtain ⟨es,ep,t,ho,rest⟩:=hS
  exact ⟨es,ep,t,hx S _ hSI ho,rest⟩
 | p::l,i,s,acc,la,r,hl,ha,kk,sm,hS,pm,e,hz,hacc=>by
  refine codeAny_builtin PyProof.Rows.F.entry_set_update_loop ?_
  rw [Around.under_plainId PyProof.Rows.F.plain_set_update_loop _]
  show wpAny _ A.in1 (pyNext (.ref I) >>= _) _ _ s
  refine A8 (P:=λ vs=>us.drop i=vs->_) r (λ v w rv rl ed=>?_) rfl
  refine zza (W.item i v s _ _ ha (Bx ed).1 λ h' ha' hs=>?_)
  have kk':∀ b o,s0.heap.get? b=some o->h'.get? b=some o:=λ b o e=>(hs.2 b λ q=>nomatch (q▸hI).symm.trans e).trans (kk b o e)
  have hS':Iy B.w (XK k) h' S led J s0.heap la:=by
   obtain ⟨es,ep,t,ho,rest⟩:=hS
   exact ⟨es,ep,t,(hs.2 S hSI).trans ho,rest⟩
  have hpk:=hl p zzf
  have hl':OfK k l:=λ q hq=>hl q (zze _ hq)
  have hla:OfK k la:=λ q hq=>hacc q (pm.mem_iff.mp hq)
  have hacc':OfK k (p::acc):=λ q hq=>(List.mem_cons.mp hq).elim (λ e=>e▸hpk) (hacc q)
  have hlen:=pm.length_eq
  have hz:acc.length+(l.length+1)≤1000:=hz
  have hdl:k=3->la.length≤4/\(p∉la->la.length+1≤4):=λ e3=>by
   subst e3
   refine Ala (λ q hq=>(hacc q hq).1) (show Am3 p acc (Ho l (p::acc) κ) (Ho l acc κ)=true from e) (λ Z e=>?_) λ hm e=>?_
   ·obtain ⟨lf,e1,e2⟩:=Nu hl' hacc' e
    have h4:=h3 rfl lf e1
    have e2:acc.length+1≤lf.length:=e2
    exact ⟨by omega,λ Z=>by omega⟩
   ·obtain ⟨lf,e1,e2⟩:=Nu hl' hacc e
    have h4:=h3 rfl lf e1
    exact ⟨by omega,λ q=>absurd (pm.mem_iff.mpr hm) q⟩
  show wpAny _ A.in1 (holding [v] (setAdd S v) >>= _) _ _ _
  refine zza (zzg (Auo (A:=A.in1) (s:={s with heap:=h'}) (by show A.units+1+30<cLine;omega) hk hS' hi kk' hla hpk.1 hpk.2 rv (by omega) hdl λ h2 tk l' b hs2 st' a1 a2=>?_))
  refine zzb ⟨plainId_quiet PyProof.Rows.F.plain_set_update_loop _,?_⟩
  have go:∀ acc',l'.Perm acc'->Ho l acc' κ=true->acc'.length≤acc.length+1->OfK k acc'->codeAny (model B.prog B.w) A (.builtin "set.update.loop" ⟨[.ref S,.ref I],[]⟩) R {s with heap:=h2,toks:=tk}:=λ acc' pm' hd' hz' hacc'=>
   Ag4 hk W hI hSI hS0 hi hu h3 hR l (i+1) _ acc' l' ((Bx ed).2.symm▸rl) hl' (W.keep _ _ _ ha' λ b o hb e=>(hs2.2 b hb).trans e) (λ b o e=>(hs2.2 b λ q=>nomatch (q▸hS0).symm.trans e).trans (kk' b o e)) ⟨sm.gens,sm.os⟩ st' pm' hd' (by omega) hacc'
  refine Ala (λ q hq=>(hacc q hq).1) (show Am3 p acc (Ho l (p::acc) κ) (Ho l acc κ)=true from e) (λ hn e=>?_) λ hm e=>?_
  ·have hnm:p∉la:=λ q=>hn (pm.mem_iff.mp q)
   exact go (p::acc) ((a2 hnm).trans ((pm.append_right _).trans List.perm_append_comm)) e (Nat.le_refl _) hacc'
  ·exact go acc (a1 (pm.mem_iff.mpr hm)▸pm) e (Nat.le_succ _) hacc
end
end
section
section
variable {B:Aq} {prog:Program} {w:World} {A:Around} {E:Value->Shared->Prop} {s:Shared} {J:Aj}
abbrev Ct (w:World):Obj:={cls:=.type "set",dict:=none,data:=.set #[] 0 (.fresh 0 0 (U6 w))}
theorem Tm (a:Value) {Q₁:Value->Shared->Prop} (h:Q₁ (.ref s.heap.objs.size) {s with heap:=s.heap.push (Ct w)}):
  codeAny (model prog w) A (.call (.builtin "set.__new__") ⟨[.type "set",a],[]⟩) (wants Q₁ E) s:=by
 refine codeAny_call_builtin PySem.F.plain_set_new PySem.F.entry_set_new (wpAny_of_eq (PySem.F.newCall_set_1 a) ?_)
 have hsub:=sub_set_self
 obtain ⟨hp,g,d,tk,os⟩:=s
 unfold Builtin.«set.__new__» Builtin.Frozenset.newClass
 wp_walk
 refine wpAny_askSetting (zzb ?_)
 dsimp only
 simp only [newObj]
 refine zza (wpAny_alloc (zzb ?_))
 exact zzb h
theorem Amq:Pd (SetTable.fresh 0 0 (U6 w)) 0:=⟨List.Pairwise.nil,rfl,Nat.zero_le _,rfl⟩
theorem Aoz {k:Nat} {h h0:Heap} {S:Addr} (e:h.get? S=some (Ct w)):Iy w (XK k) h S (U6 w) J h0 []:=by
 refine ⟨#[],0,_,e,Amq,rfl,.nil,?_⟩
 unfold XK
 split
 ·exact ⟨rfl,λ z hz=>by cases hz⟩
 ·trivial
set_option maxHeartbeats 4000000 in
theorem Aqy {k:Nat} {l:List PV} {vs:List Value} {a:Addr} {κ:List PV->Bool} {Q:Value->Shared->Prop} (hk:kOk k) (hh:A.handled=none) (hu:A.units+60<cLine) (hi:Do J s.heap) (hl:s.heap.IsList a vs.toArray) (r:RepL J s.heap l vs) (hz:l.length≤1000)
  (hall:OfK k l) (hd:Ho l [] κ=true) (h3:k=3->∀ l,κ l=true->l.length≤4)
  (h:∀ s' l' lf,κ lf=true->(∀ b o,s.heap.get? b=some o->s'.heap.get? b=some o)->Sm s s'->Iy B.w (XK k) s'.heap s.heap.objs.size (U6 B.w) J s.heap l'->l'.Perm lf->OfK k lf->lf.length≤1000->Q (.ref s.heap.objs.size) s'):
  wpAny (model B.prog B.w) A (call (.type "set") [.ref a]) Q E s:=by
 obtain ⟨c,tl,hmro⟩:=PySem.F.called_set.mro
 have hmade:=PySem.F.called_set.made
 have hsub:=PySem.F.called_set.sub
 refine wpAny_call (codeAny_of_tree ?_)
 show wpAny _ _ (callAny (.type "set") _) _ _ _
 refine zzb ⟨Code.quiet_builtin _ (by decide +kernel),codeAny_builtin PySem.F.entry_type_call ?_⟩
 rw [Around.under_plain (weight_type_call_type "set" [.ref a] []) rfl]
 have h1:=PySem.F.called_set.notType
 have h2:=PySem.F.called_set.canCreate
 have hct:=PySem.F.typeCall_set_1 (.ref a)
 repeat (any_goals (first|assumption|wp_step))
 refine codeAny_mono (Tm (.ref a) (E:=E) (Q₁:=λ obj s₁=>obj=.ref s.heap.objs.size/\s₁={s with heap:=s.heap.push (Ct B.w)}) ⟨rfl,rfl⟩) λ r s₁ hr=>?_
 cases r with
 | error e=>exact hr
 | ok fl=>
  cases fl with
  | ret obj=>
   obtain ⟨rfl,rfl⟩:=hr
   have hS:(s.heap.push (Ct B.w)).get? s.heap.objs.size=some (Ct B.w):=zzd _ rfl
   have hT:Shared.TypeIs {s with heap:=s.heap.push (Ct B.w)} (.ref s.heap.objs.size) "set":=⟨_,hS,rfl⟩
   have hli:=PySem.F.called_set.init.lookup
   have hbi:=PySem.F.called_set.init.bind (.ref s.heap.objs.size)
   repeat (any_goals (first|assumption|wp_step))
   refine codeAny_mono (codeAny_call_builtin (R:=wants (λ r s₂=>r=.none/\Q (.ref s.heap.objs.size) s₂) E) PySem.F.called_set.init.plain PySem.F.entry_set_init (check_set_init_1 hT ?_)) λ r₂ s₂ hr₂=>?_
   ·obtain ⟨ol,hol,hcl,nl,hdl⟩:=hl
    have hol':(s.heap.push (Ct B.w)).get? a=some ol:=zzc _ hol
    have hTl:Shared.TypeIs {s with heap:=s.heap.push (Ct B.w)} (.ref a) "list":=⟨_,hol',hcl⟩
    have hsls:=PySem.F.sub_list_set
    have hslf:=PySem.F.sub_list_frozenset
    have hl1:(s.heap.push (Ct B.w)).IsList a vs.toArray:=⟨_,hol',hcl,nl,hdl⟩
    have kk:∀ b o,s.heap.get? b=some o->(s.heap.push (Ct B.w)).get? b=some o:=λ b o e=>zzc _ e
    have hne:(Value.type "list"==Value.type "dict")=false:=by decide
    unfold Builtin.«set.__init__» noKeywords Builtin.Frozenset.updateFrom
    generalize hPI:pyIter=PI
    wp_walk
    subst hPI
    refine wpAny_pyIter_list hl1 ?_
    refine zza (wpAny_runValue ?_)
    have haS:a<s.heap.objs.size:=Heap.lt_size hol
    have hSn:s.heap.get? s.heap.objs.size=none:=Heap.get?_none_of_le (Nat.le_refl _)
    have hIn:s.heap.get? (s.heap.push (Ct B.w)).objs.size=none:=Yb kk
    have hSI:=Nat.ne_of_lt (Heap.lt_size hS)
    refine Ag4 (A:=A.in1.in1) (s0:=s) (κ:=κ) hk (Agg (A:=A.in1.in1.in1) hh (Ne.symm hSI) (Nat.ne_of_lt haS) (Nat.ne_of_lt (Heap.lt_size hol'))) hIn hSI hSn hi (by show A.units+1+1+40<cLine;omega) h3 (λ s' l' lf e k3 m3 hS3 p3 o3 z3=>?_)
     l 0 _ [] [] r hall ⟨⟨_,Heap.get?_push_size _ rfl,rfl,rfl⟩,hl1.push _⟩ (λ b o e=>Heap.get?_push_of_some _ (kk b o e)) ⟨rfl,rfl⟩ (Aoz (Heap.get?_push_of_some _ hS)) (List.Perm.refl _) hd (by rw [List.length_nil,Nat.zero_add];exact hz) (λ q hq=>absurd hq List.not_mem_nil)
    show wpAny _ _ _ _ _ _
    refine zzb ?_
    show wpAny _ _ (pure _) _ _ _
    exact zzb ⟨rfl,h s' l' lf e k3 m3 hS3 p3 o3 z3⟩
   ·cases r₂ with
    | error e=>exact hr₂
    | ok fl₂=>
     cases fl₂ with
     | ret r=>
      obtain ⟨rfl,hq⟩:=hr₂
      repeat (any_goals (first|assumption|wp_step))
     | _=>exact hr₂.elim
  | _=>exact hr.elim
end
end
section
def H7 (w:World):Bool:=w.params.followText "set-order"
abbrev Ag3 (first:Value) (k:Nat) (S:Addr) (n ep:Nat):Obj:={cls:=.type "set_iterator",dict:=none,data:=.fields #[first,.int k 0,.ref S,.int n 0,.int ep 0],slots:=#[]}
def An1 (w:World) (I S:Addr) (es:Array (Int×Value)) (ep:Nat) (t:SetTable) (hb:Heap) (vals:List (Int×Value)) (k:Nat) (h:Heap):Prop:=
 h.get? S=some (My es ep t)/\∃ first,h.get? I=some (Ag3 first k S es.size ep) /\
 ((∃ (T:Addr) (ord:List Nat) (o:Obj) (c:Nat),first=.ref T/\T≠I/\hb.get? T=none/\h.get? T=some o/\o.data=.seq (ord.map λ (i:Nat)=>Value.int (i:Int) 0).toArray c/\ord.Perm (List.range es.size)/\vals=ord.map λ i=>es.toList.getD i (0,.none)) \/
  (∃ (slot:Int) (u:Tok),first=.int slot u/\H7 w=true/\vals=(pickOrder (w.params.setOrder S ep) es).toList) \/
  (∃ (slot:Nat) (u:Tok),first=.int slot u/\H7 w=false/\(t.plain=true\/es.size≤1)/\t.led=true/\Bc t.place.toList slot=k/\vals=es.toList))
section
variable {prog:Program} {w:World} {A:Around} {E:Value->Shared->Prop} {s:Shared} {S I:Addr} {es:Array (Int×Value)} {ep:Nat} {t:SetTable} {vals:List (Int×Value)} {k:Nat}
theorem D7 {Q:Bool->Shared->Prop} (h:Q (H7 w) s):wpAny (model prog w) A setsByText Q E s:=by
 unfold setsByText
 exact zza (wpAny_askSetting (zzb h))
theorem Apc {Q:Value->Shared->Prop} (ho:s.heap.get? S=some (My es ep t)) (ht:Pd t es.size) (hled:t.led=U6 w) (hsz:es.size≤1000)
  (h:∀ s' I vals,(∀ b o,s.heap.get? b=some o->s'.heap.get? b=some o)->s.heap.get? I=none->Sm s s'->vals.Perm es.toList->An1 w I S es ep t s.heap vals 0 s'.heap->Q (.ref I) s'):
  wpAny (model prog w) A (pyIter (.ref S)) Q E s:=by
 have hT:s.TypeIs (.ref S) "set":=⟨_,ho,rfl⟩
 refine wpAny_pyIter_slot hT PySem.F.slot_set_iter (wpAny_call_entry PySem.F.slot_set_iter hT Yd ?_ (PySem.F.args_set_iter_1 _))
 unfold Builtin.«frozenset.__iter__»
 refine zza ?_
 unfold Builtin.Frozenset.slot0 slotArgs
 simp only [List.isEmpty_nil,Bool.not_true,Bool.false_eq_true,↓reduceIte,bind_assoc,List.length_nil,bne_self_eq_false]
 unfold Builtin.Frozenset.addrOf Builtin.Frozenset.sizeOf
 refine zza (zzb ?_)
 dsimp only
 refine zzb ?_
 refine zza (zza (wpAny_setEntries_of ho rfl ht.fits (zzb ?_)))
 refine zza ?_
 unfold setDrawn
 refine zza (wpAny_setState_of ho rfl ht.fits ?_)
 dsimp only
 refine zza (D7 ?_)
 refine zzb ?_
 refine wpAny_ite_split (λ hc=>?_) λ hc=>?_
 ·have hc':(!H7 w&&(!t.plain&&decide (es.size>1)))=true:=hc
  refine wpAny_bind (R0 es.size (List.range es.size) s _ (by simp) λ ys d hp=>?_)
  have hl:(ys.map λ (i:Nat)=>rawInt (i:Int)).length≤sizeLine:=by
   rw [List.length_map,hp.length_eq,List.length_range,sizeLine_eq];omega
  refine zza (wpAny_newTuple ?_ hl)
  refine zza (wpAny_setEpoch_of (s:={s with drawn:=d,heap:=s.heap.push {cls:=.type "tuple",data:=.seq (ys.map λ (i:Nat)=>rawInt (i:Int)).toArray}}) (zzc _ ho) rfl ht.fits ?_)
  refine zza (wpAny_newObj_type (zzb ⟨_,rfl,"set_iterator",_,⟨_,zzd _ rfl,rfl⟩,B3.lookup,?_⟩))
  have hsz1:(s.heap.push {cls:=.type "tuple",data:=.seq (ys.map λ (i:Nat)=>rawInt (i:Int)).toArray}).objs.size=s.heap.objs.size+1:=Heap.size_push _ _
  refine h _ _ (ys.map λ i=>es.toList.getD i (0,.none)) (λ b o e=>Heap.get?_push_of_some _ (Heap.get?_push_of_some _ e)) (Heap.get?_none_of_le (by rw [hsz1];exact Nat.le_succ _)) ⟨rfl,rfl⟩ ?_ ⟨Heap.get?_push_of_some _ (Heap.get?_push_of_some _ ho),_,Heap.get?_push_size _ rfl,.inl ⟨s.heap.objs.size,ys,_,0,rfl,?_,Heap.get?_none_of_le (Nat.le_refl _),Heap.get?_push_of_some _ (Heap.get?_push_size _ rfl),rfl,hp,rfl⟩⟩
  ·have e:es.toList=(List.range es.size).map λ i=>es.toList.getD i (0,.none):=by
    apply List.ext_getElem
    ·simp
    ·intro i h1 h2
     have h3:i<es.size:=by simpa using h1
     simp [h3]
   rw [e]
   have:=hp.map λ i=>es.toList.getD i (0,Value.none)
   rw [<- e]
   rw [<- e] at this
   exact this
  ·rw [hsz1];exact Nat.ne_of_lt (Nat.lt_succ_self _)
 ·have hc':¬ (!H7 w&&(!t.plain&&decide (es.size>1)))=true:=hc
  refine zza (zzb ?_)
  refine zza (wpAny_setEpoch_of ho rfl ht.fits ?_)
  refine zza (wpAny_newObj_type (zzb ⟨_,rfl,"set_iterator",_,⟨_,zzd _ rfl,rfl⟩,B3.lookup,?_⟩))
  cases hb:H7 w with
  | true=>
   refine h _ _ (pickOrder (w.params.setOrder S ep) es).toList (λ b o e=>zzc _ e) (Heap.get?_none_of_le (Nat.le_refl _)) ⟨rfl,rfl⟩ (Am9 _ _) ⟨zzc _ ho,_,zzd _ rfl,.inr (.inl ⟨0,0,rfl,hb,rfl⟩)⟩
  | false=>
   rw [hb] at hc'
   refine h _ _ es.toList (λ b o e=>zzc _ e) (Heap.get?_none_of_le (Nat.le_refl _)) ⟨rfl,rfl⟩ (List.Perm.refl _) ⟨zzc _ ho,_,zzd _ rfl,.inr (.inr ⟨0,0,rfl,hb,?_,?_,?_,rfl⟩)⟩
   ·cases hp:t.plain with
    | true=>exact .inl rfl
    | false=>rw [hp] at hc';simp at hc';exact .inr hc'
   ·rw [hled];unfold U6;unfold H7 at hb;rw [hb];rfl
   ·unfold Bc;rw [List.countP_eq_zero];intro x _;simp
end
end
section
theorem Aoh {l:List Nat} (h:Qa l) {i:Nat} (hi:i<l.length):Bc l (l[i]+1)=i+1:=by
 have h1:=(Dt h (l[i]+1) i hi).mp (Nat.lt_succ_self _)
 have h2:=Adc l (l[i]+1)
 by_cases q:i+1<l.length
 ·have h3:=Dt h (l[i]+1) (i+1) q
  have h4:l[i]<l[i+1]:=List.pairwise_iff_getElem.mp h _ _ hi q (Nat.lt_succ_self _)
  omega
 ·omega
section
variable {prog:Program} {w:World} {A:Around} {E:Value->Shared->Prop} {s:Shared} {S I:Addr} {es:Array (Int×Value)} {ep:Nat} {t:SetTable} {vals:List (Int×Value)} {k:Nat} {hb0:Heap}
theorem B6 {first:Value} {n ep:Nat} {Q:Unit->Shared->Prop} {x:Value} {j:Nat} (hj:j<5) (ho:s.heap.get? I=some (Ag3 first k S n ep)) (h:∀ h',Heap.SameBut I s.heap h'->h'.get? I=some {cls:=.type "set_iterator",dict:=none,data:=.fields ((#[first,.int k 0,.ref S,.int n 0,.int ep 0]:Array Value).setIfInBounds j x),slots:=#[]}->Q () {s with heap:=h'}):wpAny (model prog w) A (setField (.ref I) j x) Q E s:=
 wpAny_setField_rec ho hj λ h' a b=>h h' b a
theorem Am5 {e:Int×Value} {Q:Option Value->Shared->Prop} (ht:Pd t es.size) (hne:S≠I) (st:An1 w I S es ep t hb0 vals k s.heap) (he:vals[k]?=some e)
  (h:∀ h',Heap.SameBut I s.heap h'->An1 w I S es ep t hb0 vals (k+1) h'->Q (some e.2) {s with heap:=h'}):wpAny (model prog w) A (pyNext (.ref I)) Q E s:=by
 obtain ⟨hS,first,hI,hm⟩:=st
 have hT:s.TypeIs (.ref I) "set_iterator":=⟨_,hI,rfl⟩
 have e1:((k:Int)+1)=((k+1:Nat):Int):=by push_cast;rfl
 unfold pyNext
 refine zza (wpAny_attempt (wpAny_callSpecial?_slot (name:=Str.ofString "__next__") hT B3 (wpAny_call_entry B3 hT Hq ?_ (I7 _))))
 unfold Builtin.«set_iterator.__next__»
 refine zza (zzb ?_)
 refine zza (wpAny_fieldsOf hI rfl ?_)
 dsimp only
 refine zza ?_
 unfold setEntries
 refine zza (wpAny_setState_of hS rfl ht.fits (zzb ?_))
 dsimp only
 rw [if_neg (by simp)]
 rcases hm with ⟨T,ord,o,c,rfl,hTI,hTb,hoT,hdT,hord,hvals⟩|⟨slot,u,rfl,hb,hvals⟩|⟨slot,u,rfl,hb,hpl,hled,hcnt,hvals⟩
 ·dsimp only
  refine zza (wpAny_seqItems hoT hdT ?_)
  dsimp only
  rw [hvals,List.getElem?_map] at he
  obtain ⟨i,hi,rfl⟩:=Option.map_eq_some_iff.mp he
  have hi2:(ord.map λ (i:Nat)=>Value.int (i:Int) 0).toArray[((k:Int)).toNat]?=some (.int (i:Int) 0):=by
   simp [hi]
  rw [hi2]
  dsimp only
  unfold setNextDrawn
  refine zza (zza (wpAny_setState_of hS rfl ht.fits ?_))
  dsimp only
  rw [if_neg (by simp)]
  have hin:i<es.size:=by
   have:=hord.mem_iff.mp (List.mem_of_getElem? hi)
   simpa using this
  have e3:es[((i:Int)).toNat]?=some (es.toList.getD i (0,.none)):=by simp [hin]
  rw [e3]
  refine zzb ?_
  refine zza (B6 (by decide) hI λ h' hs hI'=>?_)
  refine zzb ⟨_,rfl,zzb (h h' hs ⟨hs.extBut S _ hne hS,.ref T,?_,.inl ⟨T,ord,o,c,rfl,hTI,hTb,hs.extBut T _ hTI hoT,hdT,hord,hvals⟩⟩)⟩
  rw [hI',e1];rfl
 ·dsimp only
  unfold setNext
  refine zza (zza (wpAny_setState_of hS rfl ht.fits ?_))
  dsimp only
  refine zza (D7 ?_)
  rw [hb,if_pos rfl,if_neg (by simp)]
  refine zza ?_
  unfold setWalk
  refine zza (wpAny_setState_of hS rfl ht.fits ?_)
  dsimp only
  refine zza (D7 ?_)
  rw [hb,if_pos rfl]
  refine zza (wpAny_askSetting (zzb ?_))
  refine zzb ?_
  have e2:(pickOrder ((model prog w).w.params.setOrder S ep) es)[((k:Int)).toNat]?=some e:=by
   rw [<- Array.getElem?_toList,Int.toNat_natCast]
   rw [hvals] at he
   exact he
  rw [e2]
  dsimp only [Option.map]
  refine zza (B6 (by decide) hI λ h1 hs1 hI1=>?_)
  have hI1':h1.get? I=some (Ag3 (.int slot.toNat 0) k S es.size ep):=by rw [hI1];rfl
  refine zza (B6 (s:={s with heap:=h1}) (by decide) hI1' λ h2 hs2 hI2=>?_)
  refine zzb ⟨_,rfl,zzb (h h2 (hs1.trans hs2) ⟨hs2.extBut S _ hne (hs1.extBut S _ hne hS),.int slot.toNat 0,?_,.inr (.inl ⟨slot.toNat,0,rfl,hb,hvals⟩)⟩)⟩
  rw [hI2,e1];rfl
 ·dsimp only
  unfold setNext
  refine zza (zza (wpAny_setState_of hS rfl ht.fits ?_))
  dsimp only
  refine zza (D7 ?_)
  rw [hb,if_neg (by simp)]
  refine wpAny_ite_split (λ hd=>?_) λ Z=>?_
  ·exfalso
   have hd':(!t.plain&&decide (es.size>1))=true:=hd
   rw [Bool.and_eq_true,decide_eq_true_eq] at hd'
   rcases hpl with q|q
   ·rw [q] at hd';exact absurd hd'.1 (by decide)
   ·omega
  ·refine zza ?_
   show wpAny _ _ (if (!t.led&&!es.isEmpty)=true then unsupported "set:maker-not-led" else pure ()) _ _ _
   rw [hled,if_neg (by simp)]
   refine zzb ?_
   rw [Int.toNat_natCast,Rv ht.rise,hcnt]
   rw [hvals] at he
   have hk:k<es.size:=by
    have:=(List.getElem?_eq_some_iff.mp he).1
    simpa using this
   have hkp:k<t.place.toList.length:=by rw [Array.length_toList,ht.size];exact hk
   have e2:es[k]?=some e:=by rw [<- Array.getElem?_toList];exact he
   have e3:t.place[k]?=some t.place.toList[k]:=by rw [<- Array.getElem?_toList];exact List.getElem?_eq_getElem hkp
   rw [e2,e3]
   refine zzb ?_
   dsimp only
   refine zza (B6 (by decide) hI λ h1 hs1 hI1=>?_)
   have hI1':h1.get? I=some (Ag3 (.int ((t.place.toList[k]+1:Nat):Int) 0) k S es.size ep):=by rw [hI1];rfl
   refine zza (B6 (s:={s with heap:=h1}) (by decide) hI1' λ h2 hs2 hI2=>?_)
   refine zzb ⟨_,rfl,zzb (h h2 (hs1.trans hs2) ⟨hs2.extBut S _ hne (hs1.extBut S _ hne hS),.int ((t.place.toList[k]+1:Nat):Int) 0,?_,.inr (.inr ⟨t.place.toList[k]+1,0,rfl,hb,hpl,hled,Aoh ht.rise hkp,hvals⟩)⟩)⟩
   rw [hI2,e1];rfl
end
end
section
section
variable {prog:Program} {w:World} {A:Around} {E:Value->Shared->Prop} {s:Shared} {S I:Addr} {es:Array (Int×Value)} {ep:Nat} {t:SetTable} {vals:List (Int×Value)} {k:Nat} {hb0:Heap}
theorem Apu {Q:Option Value->Shared->Prop} (hh:A.handled=none) (ht:Pd t es.size) (hne:S≠I) (st:An1 w I S es ep t hb0 vals k s.heap) (he:vals[k]?=none)
  (h:∀ h',Heap.ExtBut I s.heap h'->Q none {s with heap:=h'}):wpAny (model prog w) A (pyNext (.ref I)) Q E s:=by
 obtain ⟨hS,first,hI,hm⟩:=st
 have hT:s.TypeIs (.ref I) "set_iterator":=⟨_,hI,rfl⟩
 unfold pyNext
 refine zza (wpAny_attempt (wpAny_callSpecial?_slot (name:=Str.ofString "__next__") hT B3 (wpAny_call_entry B3 hT Hq ?_ (I7 _))))
 unfold Builtin.«set_iterator.__next__»
 refine zza (zzb ?_)
 refine zza (wpAny_fieldsOf hI rfl ?_)
 dsimp only
 refine zza ?_
 unfold setEntries
 refine zza (wpAny_setState_of hS rfl ht.fits (zzb ?_))
 dsimp only
 rw [if_neg (by simp)]
 have fin:∀ (s1:Shared),s1.gens=s.gens->s1.drawn=s.drawn->s1.os=s.os->s1.toks=s.toks->Heap.ExtBut I s.heap s1.heap ->
   wpAny (model prog w) A.in1 (newExc (.type "StopIteration") [] >>= λ e=>raiseNew (α:=PySem.Fin) e) (λ fin s'=>∃ v,fin=.done (.ret v)/\wpAny (model prog w) A (match (Except.ok (some v):Except Value (Option Value)) with
    | .ok r=>pure r
    | .error e=>do if<-isInstance e (.type "StopIteration") then pure none else throw e) Q E s') (λ e s'=>wpAny (model prog w) A (do if<-isInstance e (.type "StopIteration") then pure none else throw e) Q E s') s1:=by
  intro s1 e1 e2 e3 e4 hx
  refine zza ?_
  simp only [newExc,newTuple]
  refine zza (wpAny_newObj_type ?_ (by size_fits))
  refine wpAny_bind (m:=firstArgMember _ _) (wpAny_of_eq (a:=Value.none) (by first|rfl|(simp only [firstArgMember];rfl)) ?_)
  refine wpAny_newObj_type ?_ (by size_fits)
  simp only [raiseNew]
  refine zza (wpAny_handled ?_)
  rw [show A.in1.handled=none from hh]
  refine zza (zzb (wpAny_throw ?_))
  refine zza (wpAny_isInstance (T:="StopIteration") (b:=true) ⟨_,zzd _ rfl,rfl⟩ isSubtype_stop ?_)
  obtain ⟨hp,g,dr,tk,os⟩:=s1
  simp only at e1 e2 e3 e4 hx
  subst e1 e2 e3 e4
  exact zzb (h _ ((hx.push _).push _))
 rcases hm with ⟨T,ord,o,c,rfl,hTI,hTb,hoT,hdT,hord,hvals⟩|⟨slot,u,rfl,hb,hvals⟩|⟨slot,u,rfl,hb,hpl,hled,hcnt,hvals⟩
 ·dsimp only
  refine zza (wpAny_seqItems hoT hdT ?_)
  dsimp only
  rw [hvals,List.getElem?_map] at he
  have hi2:(ord.map λ (i:Nat)=>Value.int (i:Int) 0).toArray[((k:Int)).toNat]?=none:=by
   have:ord[k]?=none:=by simpa using he
   simp [this]
  rw [hi2]
  dsimp only
  refine zza (B6 (by decide) hI λ h1 hs1 hI1=>?_)
  have hI1':h1.get? I=some (Ag3 (rawInt 0) k S es.size ep):=by rw [hI1];rfl
  refine zza (B6 (s:={s with heap:=h1}) (by decide) hI1' λ h2 hs2 hI2=>?_)
  exact fin {s with heap:=h2} rfl rfl rfl rfl (hs1.trans hs2).extBut
 ·dsimp only
  unfold setNext
  refine zza (zza (wpAny_setState_of hS rfl ht.fits ?_))
  dsimp only
  refine zza (D7 ?_)
  rw [hb,if_pos rfl,if_neg (by simp)]
  refine zza ?_
  unfold setWalk
  refine zza (wpAny_setState_of hS rfl ht.fits ?_)
  dsimp only
  refine zza (D7 ?_)
  rw [hb,if_pos rfl]
  refine zza (wpAny_askSetting (zzb ?_))
  refine zzb ?_
  have e2:(pickOrder ((model prog w).w.params.setOrder S ep) es)[((k:Int)).toNat]?=none:=by
   rw [<- Array.getElem?_toList,Int.toNat_natCast]
   rw [hvals] at he
   exact he
  rw [e2]
  dsimp only [Option.map]
  refine zza (B6 (by decide) hI λ h1 hs1 hI1=>?_)
  exact fin {s with heap:=h1} rfl rfl rfl rfl hs1.extBut
 ·dsimp only
  unfold setNext
  refine zza (zza (wpAny_setState_of hS rfl ht.fits ?_))
  dsimp only
  refine zza (D7 ?_)
  rw [hb,if_neg (by simp)]
  refine wpAny_ite_split (λ hd=>?_) λ Z=>?_
  ·exfalso
   have hd':(!t.plain&&decide (es.size>1))=true:=hd
   rw [Bool.and_eq_true,decide_eq_true_eq] at hd'
   rcases hpl with q|q
   ·rw [q] at hd';exact absurd hd'.1 (by decide)
   ·omega
  ·refine zza ?_
   show wpAny _ _ (if (!t.led&&!es.isEmpty)=true then unsupported "set:maker-not-led" else pure ()) _ _ _
   rw [hled,if_neg (by simp)]
   refine zzb ?_
   rw [Int.toNat_natCast,Rv ht.rise,hcnt]
   rw [hvals] at he
   have e2:es[k]?=none:=by rw [<- Array.getElem?_toList];exact he
   rw [e2]
   refine zzb ?_
   dsimp only
   refine zza (B6 (by decide) hI λ h1 hs1 hI1=>?_)
   exact fin {s with heap:=h1} rfl rfl rfl rfl hs1.extBut
end
end
section
section
variable {prog:Program} {w:World} {A:Around} {E:Value->Shared->Prop} {s:Shared} {D S:Addr} {es:Array (Int×Value)} {ep:Nat} {t:SetTable}
theorem Ao4 {r:Addr} {Q:Bool->Shared->Prop} (hT:s.TypeIs (.ref r) "set") (h:Q false s):wpAny (model prog w) A (Builtin.List.listLengthHint (.ref r)) Q E s:=by
 unfold Builtin.List.listLengthHint
 refine zza (wpAny_specialOf hT PySem.F.slot_set_len.lookup ?_)
 generalize hid:("set.__len__":String)=id0
 wp_delta
 rw [show splitId id0=some ("set","__len__") from by subst hid;decide +kernel]
 subst hid
 refine wpAny_bind (wpAny_isInstance (T:="set") (b:=true) hT (by rw [isSubtype_type];kernel_rfl) ?_)
 refine wpAny_ite_split (λ hab=>absurd hab (by decide)) (λ Z=>?_)
 refine wpAny_ite_split (λ Z=>?_) (λ hab=>absurd (by decide +kernel) hab)
 refine zza (wpAny_typeOf hT ?_)
 exact zzb h
def Awv (es:Array (Int×Value)) (V:Nat->Heap->Value->Prop):Prop:=∃ vals:List (Int×Value),vals.Perm es.toList/\V=λ k Z v=>∃ e,vals[k]?=some e/\v=e.2
theorem Aox (hh:A.handled=none) (hS:s.heap.get? S=some (My es ep t)) (ht:Pd t es.size) (hled:t.led=U6 w) (hsz:es.size≤1000) (hne:S≠D) (hD:∃ o,s.heap.get? D=some o):
  Al4 prog w A (.ref S) es.size (Awv es) s D:=by
 obtain ⟨oD,hoD⟩:=hD
 refine ⟨"set",⟨_,hS,rfl⟩,by decide,by decide,?_,λ Q E h=>?_,λ s' Q E hk h=>Ao4 ⟨_,hk _ _ hS,rfl⟩ (h false)⟩
 ·simp [Builtin.List.listSameRef,Ne.symm hne]
 ·refine Apc hS ht hled hsz λ s1 I vals k1 hI m1 hp st=>?_
  have hSI:S≠I:=λ e=>by rw [<- e,hS] at hI;cases hI
  have hDI:D≠I:=λ e=>by rw [<- e,hoD] at hI;cases hI
  have hl:vals.length=es.size:=by rw [hp.length_eq];simp
  refine h s1 I (λ b=>b=I) (λ k Z v=>∃ e,vals[k]?=some e/\v=e.2) (λ k s2=>An1 w I S es ep t s.heap vals k s2.heap) k1 m1 st ?_ (λ b q=>by rw [q];exact hI) ⟨vals,hp,rfl⟩
  refine ⟨λ k s2 Q E hk r h=>?_,λ s2 Q E r h=>?_,λ k s2 h' r Z hk=>?_,λ k v h1 h2 q Z=>q,λ q=>hDI q⟩
  ·have hk':k<vals.length:=by omega
   exact Am5 ht hSI r (List.getElem?_eq_getElem hk') λ h' hs r'=>h _ {s2 with heap:=h'} ⟨λ b o e n=>hs.extBut b o n e,⟨rfl,rfl⟩⟩ r' ⟨_,List.getElem?_eq_getElem hk',rfl⟩
  ·exact Apu hh ht hSI r (List.getElem?_eq_none (by omega)) λ h' he=>h {s2 with heap:=h'} ⟨λ b o e n=>he b o n e,⟨rfl,rfl⟩⟩
  ·obtain ⟨a1,first,a2,hm⟩:=r
   refine ⟨hk _ _ a1 hne,first,hk _ _ a2 (Ne.symm hDI),?_⟩
   rcases hm with ⟨T,ord,o,c,e1,hTI,hTb,hoT,hdT,hord,hvals⟩|hm|hm
   ·exact .inl ⟨T,ord,o,c,e1,hTI,hTb,hk _ _ hoT (λ e=>by rw [e,hoD] at hTb;cases hTb),hdT,hord,hvals⟩
   ·exact .inr (.inl hm)
   ·exact .inr (.inr hm)
theorem Aqx {J:Aj} {h h':Heap} {l:List PV} {vs:List Value} {V:Nat->Heap->Value->Prop} (hV:Awv es V) (r:Dc w J h l es.toList) (hl:vs.length=es.size) (hv:∀ j (h:j<vs.length),V j h' vs[j]):∃ l',l'.Perm l/\RepL J h l' vs:=by
 obtain ⟨vals,hp,rfl⟩:=hV
 obtain ⟨l',pl,rs⟩:=r.perm hp.symm
 refine ⟨l',pl,?_⟩
 have:vs=vals.map (·.2):=by
  apply List.ext_getElem
  ·rw [List.length_map,hp.length_eq,hl];simp
  ·intro i h1 h2
   obtain ⟨e,he,hx⟩:=hv i h1
   have h3:i<vals.length:=by simpa using h2
   rw [List.getElem?_eq_getElem h3] at he
   rw [List.getElem_map,hx,Option.some.inj he]
 rw [this]
 exact rs.repL
end
end
section
def Aqw (l:List PV) (κ:List PV->Bool):Bool:=lC (κ []) (λ p Z=>bC false (bC false (Ho l [] λ lf=>bC (κ lf) (bC false (κ lf) (Nat.ble (len lf) 4)) (Nat.beq p.kd 3)) (Nat.ble (len l) 1000)) (Akb p.kd l)) l
def Mg (f:EF):Ax->CM (List PV):=λ ρ σ k=>f ρ σ λ p σ=>Ff p σ λ l=>Aqw l λ l1=>k l1 σ
def T0 (w:World):Aj->Heap->List PV->Value->Prop:=λ J h l1 v=>∃ (S:Addr) (es:Array (Int×Value)) (ep:Nat) (t:SetTable) (l':List PV),v=.ref S/\h.get? S=some (My es ep t)/\Pd t es.size/\t.led=U6 w/\Dc w J h l' es.toList/\l'.Perm l1/\l1.length≤1000
theorem Ax6 {p:PV} (h:p.hk=true):kOk p.kd:=by
 cases p with
 | str x=>exact .inl rfl
 | int i=>exact .inr (.inl rfl)
 | tup l=>exact .inr (.inr rfl)
 | _=>exact ff h
theorem Azx {l:List PV} {κ:List PV->Bool} (e:Aqw l κ=true):∃ k κ',kOk k/\OfK k l/\l.length≤1000/\Ho l [] κ'=true/\(∀ lf,κ' lf=true->κ lf=true)/\(k=3->∀ lf,κ' lf=true->lf.length≤4):=by
 cases l with
 | nil=>exact ⟨1,κ,.inl rfl,λ q hq=>absurd hq zzj,Nat.zero_le _,e,λ Z h=>h,λ h=>nomatch h⟩
 | cons p r=>
  refine Bs (b:=Akb p.kd (p::r)) (t:=bC false (Ho (p::r) [] λ lf=>bC (κ lf) (bC false (κ lf) (Nat.ble (len lf) 4)) (Nat.beq p.kd 3)) (Nat.ble (len (p::r)) 1000)) e λ h1 e=>Bs e λ h2 e=>?_
  have hall:=Afe h1
  refine ⟨p.kd,_,Ax6 (hall p zzf).1,hall,By (p::r)▸zzi h2,e,λ lf e=>?_,λ h lf e=>?_⟩
  ·cases hb:Nat.beq p.kd 3 with
   | true=>rw [hb] at e;exact Bs (b:=Nat.ble (len lf) 4) (t:=κ lf) e λ Z e=>e
   | false=>rw [hb] at e;exact e
  ·rw [h] at e
   exact Bs (b:=Nat.ble (len lf) 4) (t:=κ lf) e λ h Z=>By lf▸zzi h
section
variable {B:Aq} {d:Nat} {ks:List (Str×NameKind)} {xs:List Str}
theorem A0b {x:Str} {np pos:Pos} {arg:Expr} {f:EF} (hx:nsIn B.K mainGlobals x=some none) (hk:ks.lookup x=some .globalImplicit) (hd:(x==("__debug__":Str))=false) (hb:bootBuiltins x=some (.type "set")) (hn:x≠"__name__")
  (hf:SE B d ks xs arg f) (hs:∀ env,starEach [arg] env=[(false,eval arg env)]):SX B d ks xs (.Call (.Name x np) [arg] [] pos) (Mg f) (T0 B.w):=λ A s env ρ J σ hR hE hS k Q E e hQ=>by
 have ha:SX B d ks xs arg f Agx:=hf
 refine Afl hx hk hd hb hn ha (hs env) hR hE hS e λ v s1 J1 p σ1 e x1 r1=>?_
 refine Aa3 (k:=λ l=>Aqw l λ l1=>k l1 σ1) e x1.st r1 λ l a vs e ta ra=>?_
 obtain ⟨k',κ',hkk,hall,hz,hdd,hi,h3⟩:=Azx e
 refine Aqy hkk hR.2.2 (by have:=hR.2.1;omega) x1.st.idOk ta ra hz hall hdd h3 λ s2 l' lf e k2 m2 hS2 hp Z hz2=>?_
 obtain ⟨es',ep,t,ho,ht,hled,rs,_⟩:=hS2
 have y:=Nx.kept x1.st k2 m2
 exact hQ _ s2 J1 lf σ1 (hi _ e) (x1.trans y) ⟨_,es',ep,t,l',rfl,ho,ht,hled,rs.keepAll x1.st.idOk k2,hp,hz2⟩
def Mh (f:EF):EF:=λ ρ σ k=>Mg f ρ σ λ l1 σ=>Ab7 l1 λ l2=>k (.lst l2) σ
theorem Ajj {x:Str} {np pos:Pos} {arg:Expr} {f:EF} (hx:nsIn B.K mainGlobals x=some none) (hk:ks.lookup x=some .globalImplicit) (hd:(x==("__debug__":Str))=false) (hb:bootBuiltins x=some (.builtin "sorted")) (hn:x≠"__name__")
  (ha:SX B d ks xs arg (Mg f) (T0 B.w)) (hs:∀ env,starEach [arg] env=[(false,eval arg env)]):
  SE B d ks xs (.Call (.Name x np) [arg] [] pos) (Mh f):=λ A s env ρ J σ hR hE hS k Q E e hQ=>by
 refine X5 hx hk hd hb hn ha (hs env) hR hE hS e λ v s1 J1 l1 σ1 e x1 r1=>?_
 obtain ⟨S,es',ep',t,l',rfl,ho,ht,hled,rs,hp,hz⟩:=r1
 have hz':l1.length≤Bv:=Nat.le_trans hz (by decide)
 have hsz:es'.size=l1.length:=by rw [<- hp.length_eq,<-rs.length];simp
 have hc:Al0 B A.in1 J1 σ1 s1 (.ref S) l1:=λ E' Q' hc'=>
  R2 (n:=es'.size) (Ah8 (hsz▸hz')) (λ s2 D hk hD hD1 Z=>Aox (A:=A.in1.in1) hR.2.2 (hk _ _ ho) ht hled (hsz▸hz) (λ e=>nomatch (e▸hD).symm.trans ho) hD1) λ s' vs V hV hk hm hl hv=>by
   obtain ⟨l'',pl,rl⟩:=Aqx hV rs hl hv
   have y:=Nx.kept x1.st hk hm
   exact hc' l'' vs s' y (y.upL rl) (pl.trans hp)
 exact T9 (Aja hR) hc e hz' λ v s' l' e x r=>hQ v s' J1 (.lst l') σ1 e (x1.trans x) r
def Akp (f:EF):EF:=λ ρ σ k=>Mg f ρ σ λ l1 σ=>nF (λ n=>k (.int (Int.ofNat n)) σ) (len l1)
theorem Anl {x:Str} {np pos:Pos} {arg:Expr} {f:EF} (hx:nsIn B.K mainGlobals x=some none) (hk:ks.lookup x=some .globalImplicit) (hd:(x==("__debug__":Str))=false) (hb:bootBuiltins x=some (.builtin "len")) (hn:x≠"__name__")
  (ha:SX B d ks xs arg (Mg f) (T0 B.w)) (hs:∀ env,starEach [arg] env=[(false,eval arg env)]):
  SE B d ks xs (.Call (.Name x np) [arg] [] pos) (Akp f):=λ A s env ρ J σ hR hE hS k Q E e hQ=>by
 refine X5 hx hk hd hb hn ha (hs env) hR hE hS e λ v s1 J1 l1 σ1 e x1 r1=>?_
 obtain ⟨S,es',ep',t,l',rfl,ho,ht,hled,rs,hp,hz⟩:=r1
 have hsz:es'.size=l1.length:=by rw [<- hp.length_eq,<-rs.length];simp
 have e:k (.int (Int.ofNat es'.size)) σ1=true:=hsz▸By l1▸(nF_ _ _).symm.trans e
 exact call_len_set ho ⟨rfl,rfl,rfl⟩ rfl ht.fits (by omega) (hQ _ {s1 with toks:=s1.toks+1+1} J1 _ σ1 e (x1.trans (.tok x1.st (Ab _ _) _)) (C2 _ _))
end
end
section
abbrev Td (h:Heap) (z TI TO a:Addr) (f:Bool):Prop:=
 h.get? z=some {cls:=.type "zip",dict:=none,data:=.fields #[rawInt a,.bool f,.bool false,.ref TI,.ref TO],slots:=#[]}
section
variable {prog:Program} {w:World} {A:Around} {E:Value->Shared->Prop} {s:Shared}
theorem Acg {z TI TO a:Addr} {f:Bool} {oa:Obj} {Q:Bool->Shared->Prop} (hz:Td s.heap z TI TO a f) (ha:s.heap.get? a=some oa)
  (h:∀ h',Heap.SameBut z s.heap h'->Td h' z TI TO a true->Q false {s with heap:=h'}):wpAny (model prog w) A (Builtin.SmallTypes.ownedTupleIsFree (.ref z)) Q E s:=by
 unfold Builtin.SmallTypes.ownedTupleIsFree
 refine zza (wpAny_field hz rfl (x:=rawInt a) rfl ?_)
 show wpAny _ _ (loadIfAlive ((a:Int).toNat) >>= _) _ _ _
 rw [Int.toNat_natCast]
 refine zza (kdx_alive ha ?_)
 simp only [Option.isNone_some,Bool.false_eq_true,if_false]
 refine zza (wpAny_field hz rfl (x:=.bool f) rfl ?_)
 cases f with
 | true=>
  rw [if_neg (show ¬ ((Value.bool true != Value.bool true)=true) from Bool.false_ne_true)]
  exact zzb (h s.heap (Heap.SameBut.refl _ _) hz)
 | false=>
  rw [if_pos (show (Value.bool false != Value.bool true)=true from rfl)]
  refine wpAny_bind (wpAny_setField_rec hz (by simp) λ h' he hs=>wpAny_pure (h h' hs he))
theorem Ant {z TI TO i1 i2 t1 t2 a:Addr} {f:Bool} {oa:Obj} {k1 k2:Nat} {xs ys:Array Value} {x y:Value} {Q:Value->Shared->Prop} (D:ZA z TI TO i1 i2 t1 t2)
  (hz:Td s.heap z TI TO a f) (ha:s.heap.get? a=some oa) (haz:a≠z) (ha1:a≠i1) (ha2:a≠i2) (hTI:IsPair s.heap TI (.ref i1) (.ref i2))
  (h1:s.heap.IsTupleIter i1 t1 k1) (h2:s.heap.IsTupleIter i2 t2 k2) (hl1:IsTup s.heap t1 xs) (hl2:IsTup s.heap t2 ys) (hx:xs[k1]?=some x) (hy:ys[k2]?=some y)
  (hQ:∀ h',Td h' z TI TO a true->h'.IsTupleIter i1 t1 (k1+1)->h'.IsTupleIter i2 t2 (k2+1)->IsPair h' s.heap.objs.size x y ->
   (∀ c o,c≠z->c≠i1->c≠i2->s.heap.get? c=some o->h'.get? c=some o)->Q (.ref s.heap.objs.size) {s with heap:=h'}):
  wpAny (model prog w) A (Builtin.«zip.__next__» ⟨[.ref z],[]⟩) (λ fin s'=>∃ v,fin=.done (.ret v)/\Q v s') E s:=by
 show wpAny _ _ (field (.ref z) 2 >>= _) _ _ _
 refine zza (wpAny_field hz rfl (x:=.bool false) rfl ?_)
 show wpAny _ _ (field (.ref z) 3 >>= _) _ _ _
 refine zza (wpAny_field hz rfl (x:=.ref TI) rfl ?_)
 refine zza (wpAny_seqItems hTI rfl ?_)
 show wpAny _ _ (Builtin.SmallTypes.ownedTupleIsFree (.ref z) >>= _) _ _ _
 refine zza (Acg hz ha λ u1 e1 z1=>?_)
 simp only [Bool.false_eq_true,if_false]
 refine zza ?_
 rw [<- Array.forIn_toList]
 simp only [List.forIn_cons,List.forIn_nil]
 refine zza (zza (zzg ?_))
 show wpAny _ _ (Builtin.SmallTypes.nextOf (.ref i1) >>= _) _ _ _
 refine zza (Bi (s:={s with heap:=u1}) (h1.extBut e1.extBut D.i1z) (hl1.extBut e1.extBut D.t1z) hx λ u2 a2 e2=>zzb ?_)
 refine zzb ?_
 refine zza (zza (zzg ?_))
 show wpAny _ _ (Builtin.SmallTypes.nextOf (.ref i2) >>= _) _ _ _
 refine zza (Bi (s:={s with heap:=u2}) ((h2.extBut e1.extBut D.i2z).extBut e2.extBut D.i12.symm) ((hl2.extBut e1.extBut D.t2z).extBut e2.extBut D.t2i1) hy λ u3 b3 e3=>zzb ?_)
 refine zzb (zzb ?_)
 refine wpAny_bind (wpAny_newTuple ?_ (by show 2≤_;rw [sizeLine_eq];omega))
 have hsz:u3.objs.size=s.heap.objs.size:=(e3.1.trans e2.1).trans e1.1
 refine zzb ⟨_,rfl,?_⟩
 show Q (.ref u3.objs.size) _
 rw [hsz]
 refine hQ _ (zzc _ (e3.extBut _ _ D.i2z.symm (e2.extBut _ _ D.i1z.symm z1))) (let ⟨o,ho,r⟩:=a2.extBut e3.extBut D.i12;⟨o,zzc _ ho,r⟩) (let ⟨o,ho,r⟩:=b3;⟨o,zzc _ ho,r⟩) ?_ λ c o c1 c2 c3 q=>zzc _ (e3.extBut _ _ c3 (e2.extBut _ _ c2 (e1.extBut _ _ c1 q)))
 rw [<- hsz]
 exact zzd _ rfl
end
end
section
section
variable {prog:Program} {w:World} {A:Around} {E:Value->Shared->Prop} {s:Shared}
theorem Arj {z TI TO i1 i2 t1 t2 a:Addr} {f:Bool} {oa:Obj} {k1 k2:Nat} {xs ys:Array Value} {Q:Fin->Shared->Prop} (hh:A.handled=none) (D:ZA z TI TO i1 i2 t1 t2)
  (hz:Td s.heap z TI TO a f) (ha:s.heap.get? a=some oa) (hTI:IsPair s.heap TI (.ref i1) (.ref i2))
  (h1:s.heap.IsTupleIter i1 t1 k1) (h2:s.heap.IsTupleIter i2 t2 k2) (hl1:IsTup s.heap t1 xs) (hl2:IsTup s.heap t2 ys) (hend:xs[k1]?=none\/ys[k2]?=none)
  (hE:∀ h' e,(∀ c o,c≠z->c≠i1->c≠i2->s.heap.get? c=some o->h'.get? c=some o)->(∃ o,h'.get? e=some o/\o.cls=.type "StopIteration")->E (.ref e) {s with heap:=h'}):
  wpAny (model prog w) A (Builtin.«zip.__next__» ⟨[.ref z],[]⟩) Q E s:=by
 show wpAny _ _ (field (.ref z) 2 >>= _) _ _ _
 refine zza (wpAny_field hz rfl (x:=.bool false) rfl ?_)
 show wpAny _ _ (field (.ref z) 3 >>= _) _ _ _
 refine zza (wpAny_field hz rfl (x:=.ref TI) rfl ?_)
 refine zza (wpAny_seqItems hTI rfl ?_)
 show wpAny _ _ (Builtin.SmallTypes.ownedTupleIsFree (.ref z) >>= _) _ _ _
 refine zza (Acg hz ha λ u1 e1 z1=>?_)
 simp only [Bool.false_eq_true,if_false]
 refine zza ?_
 rw [<- Array.forIn_toList]
 simp only [List.forIn_cons,List.forIn_nil]
 refine zza (zza (zzg ?_))
 show wpAny _ _ (Builtin.SmallTypes.nextOf (.ref i1) >>= _) _ _ _
 cases hx:xs[k1]? with
 | none=>
  refine zza (Ca (s:={s with heap:=u1}) hh (h1.extBut e1.extBut D.i1z) (hl1.extBut e1.extBut D.t1z) hx λ u2 e he2 he=>?_)
  exact hE u2 e (λ c o c1 c2 c3 q=>he2 _ _ c2 (e1.extBut _ _ c1 q)) he
 | some x=>
  have hy:ys[k2]?=none:=by rcases hend with h|h;rw [hx] at h;cases h;exact h
  refine zza (Bi (s:={s with heap:=u1}) (h1.extBut e1.extBut D.i1z) (hl1.extBut e1.extBut D.t1z) hx λ u2 a2 e2=>zzb ?_)
  refine zzb ?_
  refine zza (zza (zzg ?_))
  show wpAny _ _ (Builtin.SmallTypes.nextOf (.ref i2) >>= _) _ _ _
  refine zza (Ca (s:={s with heap:=u2}) hh ((h2.extBut e1.extBut D.i2z).extBut e2.extBut D.i12.symm) ((hl2.extBut e1.extBut D.t2z).extBut e2.extBut D.t2i1) hy λ u3 e he3 he=>?_)
  exact hE u3 e (λ c o c1 c2 c3 q=>he3 _ _ c3 (e2.extBut _ _ c2 (e1.extBut _ _ c1 q))) he
def V1 (z TO i1 i2:Addr):Addr->Prop:=λ b=>b=z\/b=TO\/b=i1\/b=i2
structure A4u (z TI TO i1 i2 t1 t2:Addr) (xs ys:Array Value) (h0:Heap) (k:Nat) (s:Shared):Prop where
 TIp:IsPair s.heap TI (.ref i1) (.ref i2)
 it1:s.heap.IsTupleIter i1 t1 k
 it2:s.heap.IsTupleIter i2 t2 k
 tu1:IsTup s.heap t1 xs
 tu2:IsTup s.heap t2 ys
 st:(IsZip s.heap z TI TO .none/\∃ a b,IsPair s.heap TO a b)\/∃ a f oa,Td s.heap z TI TO a f/\s.heap.get? a=some oa/\¬ V1 z TO i1 i2 a/\h0.get? a=none
def A0i (z TO i1 i2:Addr) (xs ys:Array Value) (h0:Heap):Nat->Heap->Value->Prop:=λ k h v=>∃ T x y,v=.ref T/\IsPair h T x y/\xs[k]?=some x/\ys[k]?=some y/\¬ V1 z TO i1 i2 T/\h0.get? T=none
theorem Avc {z TI TO i1 i2 t1 t2 D:Addr} {xs ys:Array Value} {h0:Heap} {n:Nat} (hh:A.handled=none) (Z:ZA z TI TO i1 i2 t1 t2) (hn:n=min xs.size ys.size) (hD:h0.get? D≠none) (hown:∀ b,V1 z TO i1 i2 b->h0.get? b≠none) (hDo:¬ V1 z TO i1 i2 D) (hTI:TI≠D) (ht1:t1≠D) (ht2:t2≠D):
  Afc prog w A z (V1 z TO i1 i2) D n (A0i z TO i1 i2 xs ys h0) (λ k s=>h0.objs.size≤s.heap.objs.size/\A4u z TI TO i1 i2 t1 t2 xs ys h0 k s):=by
 refine ⟨λ k s Q E hk ⟨hl,r⟩ h=>?_,λ s Q E ⟨hl,r⟩ h=>?_,λ k s h' ⟨hl,r⟩ hz hk=>?_,λ k v h h' q hk=>?_,hDo⟩
 ·have hx:xs[k]?=some xs[k]:=Array.getElem?_eq_getElem (by omega)
  have hy:ys[k]?=some ys[k]:=Array.getElem?_eq_getElem (by omega)
  have hT0:h0.get? s.heap.objs.size=none:=Heap.get?_none_of_le hl
  have hTo:¬ V1 z TO i1 i2 s.heap.objs.size:=λ q=>hown _ q hT0
  have live:∀ h':Heap,IsPair h' s.heap.objs.size xs[k] ys[k]->h0.objs.size≤h'.objs.size:=λ h' hp=>Nat.le_trans hl (Nat.le_of_lt (Heap.lt_size hp))
  have tup:∀ (h':Heap) (t:Addr) (vs:Array Value),(∀ c o,c≠z->c≠TO->c≠i1->c≠i2->s.heap.get? c=some o->h'.get? c=some o)->t≠z->t≠TO->t≠i1->t≠i2->IsTup s.heap t vs->IsTup h' t vs:=λ h' t vs hk a b c d ⟨o,ho,r⟩=>⟨o,hk t o a b c d ho,r⟩
  rcases r.st with ⟨hz,pa,pb,hTO⟩|⟨a,f,oa,hz,ha,hao,ha0⟩
  ·refine Vd Z hz r.TIp hTO r.it1 r.it2 r.tu1 r.tu2 hx hy λ h' b1 b2 b3 b4 b5 b6 b7=>?_
   have hk':∀ c o,c≠z->c≠TO->c≠i1->c≠i2->s.heap.get? c=some o->h'.get? c=some o:=b7
   refine h _ {s with heap:=h'} ⟨λ b o e n=>hk' b o (λ q=>n (.inl q)) (λ q=>n (.inr (.inl q))) (λ q=>n (.inr (.inr (.inl q)))) (λ q=>n (.inr (.inr (.inr q)))) e,⟨rfl,rfl⟩⟩
    ⟨live h' b5,⟨hk' _ _ Z.TIz Z.TITO Z.TIi1 Z.TIi2 r.TIp,b3,b4,tup h' _ _ hk' Z.t1z Z.t1TO Z.t1i1 Z.t1i2 r.tu1,tup h' _ _ hk' Z.t2z Z.t2TO Z.t2i1 Z.t2i2 r.tu2,.inr ⟨s.heap.objs.size,false,_,b1,b5,hTo,hT0⟩⟩⟩
    ⟨_,_,_,rfl,b5,hx,hy,hTo,hT0⟩
  ·have hT:s.TypeIs (.ref z) "zip":=⟨_,hz,rfl⟩
   unfold pyNext
   refine zza (wpAny_attempt (wpAny_callSpecial?_slot (name:=Str.ofString "__next__") hT PySem.F.slot_zip_next
    (wpAny_call_entry PySem.F.slot_zip_next hT PySem.F.entry_zip_next (Ant Z hz ha (λ q=>hao (.inl q)) (λ q=>hao (.inr (.inr (.inl q)))) (λ q=>hao (.inr (.inr (.inr q)))) r.TIp r.it1 r.it2 r.tu1 r.tu2 hx hy λ h' b1 b3 b4 b5 b7=>zzb ?_) (PySem.F.args_zip_next_1 _))))
   have hk':∀ c o,c≠z->c≠TO->c≠i1->c≠i2->s.heap.get? c=some o->h'.get? c=some o:=λ c o c1 Z c3 c4=>b7 c o c1 c3 c4
   refine h _ {s with heap:=h'} ⟨λ b o e n=>hk' b o (λ q=>n (.inl q)) (λ q=>n (.inr (.inl q))) (λ q=>n (.inr (.inr (.inl q)))) (λ q=>n (.inr (.inr (.inr q)))) e,⟨rfl,rfl⟩⟩
    ⟨live h' b5,⟨hk' _ _ Z.TIz Z.TITO Z.TIi1 Z.TIi2 r.TIp,b3,b4,tup h' _ _ hk' Z.t1z Z.t1TO Z.t1i1 Z.t1i2 r.tu1,tup h' _ _ hk' Z.t2z Z.t2TO Z.t2i1 Z.t2i2 r.tu2,.inr ⟨a,true,oa,b1,hk' _ _ (λ q=>hao (.inl q)) (λ q=>hao (.inr (.inl q))) (λ q=>hao (.inr (.inr (.inl q)))) (λ q=>hao (.inr (.inr (.inr q)))) ha,hao,ha0⟩⟩⟩
    ⟨_,_,_,rfl,b5,hx,hy,hTo,hT0⟩
 ·have hend:xs[n]?=none\/ys[n]?=none:=by
   by_cases q:xs.size≤n
   ·exact .inl (Array.getElem?_eq_none q)
   ·exact .inr (Array.getElem?_eq_none (by omega))
  rcases r.st with ⟨hz,pa,pb,hTO⟩|⟨a,f,oa,hz,ha,hao,ha0⟩
  ·exact Kc hh Z hz r.TIp hTO r.it1 r.it2 r.tu1 r.tu2 hend λ h' hk Z=>h {s with heap:=h'} ⟨λ b o e n=>hk b o (λ q=>n (.inl q)) (λ q=>n (.inr (.inl q))) (λ q=>n (.inr (.inr (.inl q)))) (λ q=>n (.inr (.inr (.inr q)))) e,⟨rfl,rfl⟩⟩
  ·have hT:s.TypeIs (.ref z) "zip":=⟨_,hz,rfl⟩
   unfold pyNext
   refine zza (wpAny_attempt (wpAny_callSpecial?_slot (name:=Str.ofString "__next__") hT PySem.F.slot_zip_next
    (wpAny_call_entry PySem.F.slot_zip_next hT PySem.F.entry_zip_next (Arj (A:=A.in1) hh Z hz ha r.TIp r.it1 r.it2 r.tu1 r.tu2 hend λ h' e hk he=>?_) (PySem.F.args_zip_next_1 _))))
   obtain ⟨o,ho,hc⟩:=he
   refine zza (wpAny_isInstance (T:="StopIteration") (b:=true) ⟨o,ho,hc⟩ isSubtype_stop ?_)
   exact zzb (h {s with heap:=h'} ⟨λ b o e n=>hk b o (λ q=>n (.inl q)) (λ q=>n (.inr (.inr (.inl q)))) (λ q=>n (.inr (.inr (.inr q)))) e,⟨rfl,rfl⟩⟩)
 ·have ne:∀ {c:Addr},V1 z TO i1 i2 c->c≠D:=λ q e=>hDo (e▸q)
  refine ⟨by show h0.objs.size≤h'.objs.size;rw [hz];exact hl,hk _ _ r.TIp hTI,?_,?_,?_,?_,?_⟩
  ·obtain ⟨o,ho,x⟩:=r.it1;exact ⟨o,hk _ _ ho (ne (.inr (.inr (.inl rfl)))),x⟩
  ·obtain ⟨o,ho,x⟩:=r.it2;exact ⟨o,hk _ _ ho (ne (.inr (.inr (.inr rfl)))),x⟩
  ·obtain ⟨o,ho,x⟩:=r.tu1;exact ⟨o,hk _ _ ho ht1,x⟩
  ·obtain ⟨o,ho,x⟩:=r.tu2;exact ⟨o,hk _ _ ho ht2,x⟩
  ·rcases r.st with ⟨hz,pa,pb,hTO⟩|⟨a,f,oa,hz,ha,hao,ha0⟩
   ·exact .inl ⟨hk _ _ hz (ne (.inl rfl)),pa,pb,hk _ _ hTO (ne (.inr (.inl rfl)))⟩
   ·exact .inr ⟨a,f,oa,hk _ _ hz (ne (.inl rfl)),hk _ _ ha (λ e=>hD (e▸ha0)),hao,ha0⟩
 ·obtain ⟨T,x,y,rfl,hp,hx,hy,hTo,hT0⟩:=q
  exact ⟨T,x,y,rfl,hk T _ hp hTo (λ e=>hD (e▸hT0)),hx,hy,hTo,hT0⟩
end
end
section
theorem Aj1:typeLookup (.type "zip") "__len__"=pure none:=by rw [typeLookup_type,builtinLookup_eq_fast];kernel_rfl
theorem Ahi:typeLookup (.type "zip") "__length_hint__"=pure none:=by rw [typeLookup_type,builtinLookup_eq_fast];kernel_rfl
structure Aqe (hb:Heap) (J:Aj) (h:Heap) (a b:List PV) (z TI TO i1 i2 t1 t2:Addr) (vs ws:List Value):Prop where
 D:ZA z TI TO i1 i2 t1 t2
 zp:IsZip h z TI TO .none
 pTI:IsPair h TI (.ref i1) (.ref i2)
 pTO:IsPair h TO .none .none
 it1:h.IsTupleIter i1 t1 0
 it2:h.IsTupleIter i2 t2 0
 tu1:IsTup h t1 vs.toArray
 tu2:IsTup h t2 ws.toArray
 r1:RepL J hb a vs
 r2:RepL J hb b ws
 out:∀ b,(V1 z TO i1 i2 b\/b=TI)->¬ J.has b
 n1:¬ J.has t1
 n2:¬ J.has t2
 new:∀ b,V1 z TO i1 i2 b->hb.get? b=none
section
variable {B:Aq} {d:Nat} {ks:List (Str×NameKind)} {xs:List Str}
def Au6 (ps:List PV) (k:List PV->List PV->Bool):Bool:=on2 ps λ p q=>Lo (λ a=>Lo (k a) q) p
theorem Avb {x:Str} {np pos:Pos} {args:List Expr} {l:LF} (hx:nsIn B.K mainGlobals x=some none) (hk:ks.lookup x=some .globalImplicit) (hd:(x==("__debug__":Str))=false) (hb:bootBuiltins x=some (.type "zip")) (hn:x≠"__name__")
  (hsel:SEL B d ks xs args l) {A:Around} {s:Shared} {env:Env} {ρ:Ax} {J:Aj} {σ:PS} {k:List PV->List PV->PS->Bool} {Q E:Value->Shared->Prop} (hR:Cc A d) (hE:As ks xs env ρ J s.heap) (hS:St B J σ s.heap) (e:l ρ σ (λ ps σ=>Au6 ps λ a b=>k a b σ)=true)
  (hQ:∀ sb s1 J1 σ1 a b z TI TO i1 i2 t1 t2 vs ws,k a b σ1=true->Nx B Ao J s J1 σ1 sb->(∀ b o,sb.heap.get? b=some o->s1.heap.get? b=some o)->Sm sb s1->Aqe sb.heap J1 s1.heap a b z TI TO i1 i2 t1 t2 vs ws->Q (.ref z) s1):wpAny (model B.prog B.w) A (eval (.Call (.Name x np) args [] pos) env) Q E s:=by
 refine Wo hx hk hd hb hn hsel hR hE hS e λ vs s1 J1 ps σ1 e x1 r1=>Yr e λ p q hp e=>?_
 subst hp
 refine r1.two λ u v hv ru rv=>?_
 subst hv
 refine Aj0 (k:=λ a=>Lo (λ b=>k a b σ1) q) e ru λ l1 t1 us e n1 Z ta1 ra1=>Aj0 (k:=λ b=>k l1 b σ1) e rv λ l2 t2 ws e n2 Z ta2 ra2=>?_
 refine Abk ta1 ta2 ?_
 obtain ⟨n,hsz⟩:∃ n,s1.heap.objs.size=n:=⟨_,rfl⟩
 have z1:(zH1 s1.heap t1).objs.size=n+1:=by rw [Heap.size_push,hsz]
 have z2:(zH2 s1.heap t1 t2).objs.size=n+2:=by rw [Heap.size_push,z1]
 have z3:(zH3 s1.heap t1 t2).objs.size=n+3:=by rw [Heap.size_push,z2]
 have z4:(zH4 s1.heap t1 t2).objs.size=n+4:=by rw [Heap.size_push,z3]
 have k5:∀ b o,s1.heap.get? b=some o->(zH5 s1.heap t1 t2).get? b=some o:=λ b o e=>zzc _ (zzc _ (zzc _ (zzc _ (zzc _ e))))
 have g5:IsZip (zH5 s1.heap t1 t2) (zH4 s1.heap t1 t2).objs.size (zH2 s1.heap t1 t2).objs.size (zH3 s1.heap t1 t2).objs.size .none:=zzd _ rfl
 have g4:IsPair (zH5 s1.heap t1 t2) (zH3 s1.heap t1 t2).objs.size .none .none:=zzc _ (zzd _ rfl)
 have g3:IsPair (zH5 s1.heap t1 t2) (zH2 s1.heap t1 t2).objs.size (.ref s1.heap.objs.size) (.ref (zH1 s1.heap t1).objs.size):=zzc _ (zzc _ (zzd _ rfl))
 have g2:(zH5 s1.heap t1 t2).IsTupleIter (zH1 s1.heap t1).objs.size t2 0:=⟨_,zzc _ (zzc _ (zzc _ (zzd _ rfl))),rfl,rfl⟩
 have g1:(zH5 s1.heap t1 t2).IsTupleIter s1.heap.objs.size t1 0:=⟨_,zzc _ (zzc _ (zzc _ (zzc _ (zzd _ rfl)))),rfl,rfl⟩
 have lt1:t1<n:=ta1.elim λ o e=>hsz▸Heap.lt_size e.1
 have lt2:t2<n:=ta2.elim λ o e=>hsz▸Heap.lt_size e.1
 have hnone:∀ b,n≤b->s1.heap.get? b=none:=λ b hb=>Heap.get?_none_of_le (hsz▸hb)
 rw [z4]
 generalize zH5 s1.heap t1 t2=H5 at *
 rw [z2,z3,z4] at g5
 rw [z3] at g4
 rw [z1,z2,hsz] at g3
 rw [z1] at g2
 rw [hsz] at g1
 have key:∀ b,(V1 (n+4) (n+3) n (n+1) b\/b=n+2)->n≤b:=λ b q=>by
  rcases q with (rfl|rfl|rfl|rfl)|rfl
  ·exact Nat.le_add_right _ _
  ·exact Nat.le_add_right _ _
  ·exact Nat.le_refl _
  ·exact Nat.le_add_right _ _
  ·exact Nat.le_add_right _ _
 exact hQ s1 {s1 with heap:=H5} J1 σ1 l1 l2 (n+4) (n+2) (n+3) n (n+1) t1 t2 us ws e x1 k5 ⟨rfl,rfl⟩ ⟨Axa n t1 t2 lt1 lt2,g5,g3,g4,g1,g2,ta1.elim λ o q=>⟨o,k5 _ _ q.1,q.2⟩,ta2.elim λ o q=>⟨o,k5 _ _ q.1,q.2⟩,ra1,ra2,λ b q=>Nw x1.st (hnone b (key b q)),n1,n2,λ b q=>hnone b (key b (.inl q))⟩
theorem Aia {T:String} {name:Str} {id:String} {Bt:Builtin} {self:Value} {rest:List Value} {prog:Program} {w:World} {A:Around} {s:Shared} {Q E:Value->Shared->Prop} (slot:Slot T name id) (hT:s.TypeIs self T)
  (entry:entryFor table id=some Bt) (args:argsOk id ⟨self::rest,[]⟩)
  (h:wpAny (model prog w) A.in1 (Bt ⟨self::rest,[]⟩) (λ fin s'=>match fin with|.done f=>wants Q E (.ok f) s'|.again c'=>c'.quiet=true/\codeAny (model prog w) A c' (wants Q E) s') (λ e s'=>wants Q E (.error e) s') s):wpAny (model prog w) A (call (.builtin id) (self::rest)) Q E s:=
 wpAny_call (codeAny_call_builtin slot.plain entry (slot.check _ _ _ _ _ _ _ _ hT args h))
theorem Ao5 {prog:Program} {w:World} {A:Around} {s:Shared} {z:Addr} {Q:Bool->Shared->Prop} {E:Value->Shared->Prop} (hT:s.TypeIs (.ref z) "zip") (h:Q true s):wpAny (model prog w) A (Builtin.List.listLengthHint (.ref z)) Q E s:=by
 unfold Builtin.List.listLengthHint
 refine zza (wpAny_specialOf hT Aj1 ?_)
 show wpAny _ A (specialOf (Value.ref z) (Str.ofString "__length_hint__") >>= _) _ _ _
 refine zza (wpAny_specialOf hT Ahi ?_)
 exact zzb h
theorem Aly {z TO i1 i2:Addr} {J J':Aj} {h0 h0' h':Heap} (up:∀ p v,Ae J h0' p v->Ae J' h' p v) (hn:∀ T,h0.get? T=none->¬ J'.has T):∀ {a b:List PV} {vs ws out:List Value} (k:Nat) {vs0 ws0:Array Value},RepL J h0' a vs->RepL J h0' b ws->(∀ j,vs0[k+j]?=vs[j]?)->(∀ j,ws0[k+j]?=ws[j]?)->out.length=min vs.length ws.length ->
  (∀ j (h:j<out.length),A0i z TO i1 i2 vs0 ws0 h0 (k+j) h' out[j])->RepL J' h' (S7 a b) out
 | [],b,vs,ws,out,k,_,_,r1,r2,_,_,hl,_=>by
  cases (show vs=[] from r1)
  cases List.length_eq_zero_iff.mp (hl.trans (Nat.zero_min _))
  exact Cx
 | p::a,[],vs,ws,out,k,_,_,r1,r2,_,_,hl,_=>by
  cases (show ws=[] from r2)
  cases List.length_eq_zero_iff.mp (hl.trans (Nat.min_zero _))
  exact Cx
 | p::a,q::b,vs,ws,out,k,vs0,ws0,r1,r2,e1,e2,hl,hv=>by
  obtain ⟨v,vs,rfl,rp,r3⟩:=(r1:∃ v r,vs=v::r/\Ae J h0' p v/\RepL J h0' a r)
  obtain ⟨w,ws,rfl,rq,r4⟩:=(r2:∃ v r,ws=v::r/\Ae J h0' q v/\RepL J h0' b r)
  cases out with
  | nil=>exact nomatch hl.trans (Nat.succ_min_succ _ _)
  | cons o out=>
   obtain ⟨T,x,y,ho,hp,hx,hy,_,hT0⟩:=hv 0 (Nat.zero_lt_succ _)
   have ho:o=.ref T:=ho
   cases (hx.symm.trans (e1 0))
   cases (hy.symm.trans (e2 0))
   have e1':∀ j,vs0[k+1+j]?=vs[j]?:=λ j=>by rw [Nat.add_assoc,Nat.add_comm 1];exact e1 (j+1)
   have e2':∀ j,ws0[k+1+j]?=ws[j]?:=λ j=>by rw [Nat.add_assoc,Nat.add_comm 1];exact e2 (j+1)
   exact ho▸Bd (Ek (hn T hT0) ⟨_,hp,rfl⟩ ⟨_,hp,rfl,0,rfl⟩ (Bd (up _ _ rp) (Bd (up _ _ rq) Cx)))
    (Aly up hn (k+1) r3 r4 e1' e2' (Nat.succ.inj (hl.trans (Nat.succ_min_succ _ _))) λ j h=>by
     have:=hv (j+1) (Nat.succ_lt_succ h)
     rw [Nat.add_assoc,Nat.add_comm 1]
     exact this)
theorem Aii {A:Around} {sb s:Shared} {J:Aj} {σ:PS} {i:Nat} {D:Addr} {l l1 l2:List PV} {Q E:Value->Shared->Prop} {z TI TO i1 i2 t1 t2:Addr} {vs ws us:List Value} {n:Nat} {t':TS} (hR:Cc A 0) (st:St B J σ sb.heap) (kb:∀ b o,sb.heap.get? b=some o->s.heap.get? b=some o) (mb:Sm sb s) (ea:J.l[i]?=some D)
  (ho0:sb.heap.get? D=some {cls:=.type "list",dict:=none,data:=.seq us.toArray n,slots:=#[]}) (rl0:RepL J sb.heap l us) (rz:Aqe sb.heap J s.heap l1 l2 z TI TO i1 i2 t1 t2 vs ws) (hz:l.length≤Bv) (hz1:l1.length≤Bv) (hp:Put σ.t t' i (.list (l++S7 l1 l2)))
  (h:∀ s',Nx B Ao J sb J ⟨σ.n,t'⟩ s'->Q .none s'):wpAny (model B.prog B.w) A (call (.builtin "list.extend") [.ref D,.ref z]) Q E s:=by
 obtain ⟨Z,hz0,hTI,hTO,hi1,hi2,ht1,ht2,r1,r2,hout,n1,n2,hnew⟩:=rz
 have ho:=kb _ _ ho0
 have hDJ:J.has D:=Aj.at ea
 have hTD:s.TypeIs (.ref D) "list":=⟨_,ho,rfl⟩
 have hb:Bv=100000:=rfl
 have hmin:min vs.toArray.size ws.toArray.size≤100000:=Nat.le_trans (Nat.min_le_left _ _) (by rw [List.size_toArray,r1.length];exact hz1)
 refine Aia PySem.F.slot_list_extend hTD PySem.F.entry_list_extend (PySem.F.args_list_extend_2 _ _) ?_
 show wpAny _ A.in1 (Builtin.List.listExtendWith (.ref D) (.ref z) .none) _ _ s
 have hDz:D≠z:=λ e=>hout z (.inl (.inl rfl)) (e▸hDJ)
 have alive:∀ {b:Addr} {o:Obj},s.heap.get? b=some o->s.heap.get? b≠none:=λ e q=>nomatch q.symm.trans e
 refine Ve (V1 z TO i1 i2) (T:="zip") (n:=min vs.toArray.size ws.toArray.size) (OKV:=λ V=>V=A0i z TO i1 i2 vs.toArray ws.toArray s.heap) (acc:=us) ⟨_,hz0,rfl⟩ (by decide) (by decide) (by simp [Builtin.List.listSameRef,hDz]) ho ⟨rfl,rfl,rfl⟩ rfl (by rw [rl0.length,sizeLine_eq];omega)
  (λ Q' E' h'=>wpAny_pyIter_zip hz0 (h' s z (V1 z TO i1 i2) _ _ (λ Z Z e=>e) (Sm.refl s) ⟨Nat.le_refl _,hTI,hi1,hi2,ht1,ht2,.inl ⟨hz0,_,_,hTO⟩⟩ (Avc (A:=A.in1) (D:=D) (h0:=s.heap) hR.2.2 Z rfl (alive ho) ?_ (λ q=>hout D (.inl q) hDJ) (λ e=>hout TI (.inr rfl) (e▸hDJ)) (λ e=>n1 (e▸hDJ)) λ e=>n2 (e▸hDJ)) (λ b q=>.inr q) rfl))
  (λ s' Q' E' hk h'=>Ao5 ⟨_,hk _ _ hz0,rfl⟩ (h' true)) λ s' vs' o' c' V hV k m hD' hc' hd' hl' hv'=>?_
 ·rintro b (rfl|rfl|rfl|rfl)
  ·exact alive hz0
  ·exact alive hTO
  ·exact hi1.elim λ o e=>alive e.1
  ·exact hi2.elim λ o e=>alive e.1
 ·subst hV
  have kf:∀ b o,sb.heap.get? b=some o->b≠D->s'.heap.get? b=some o:=λ b o e hne=>k b o (kb b o e) hne λ q=>nomatch (hnew b q).symm.trans e
  have hDl:=List.mem_iff_getElem?.mpr ⟨i,ea⟩
  have g:Ch Ao J J sb.heap s'.heap:=⟨⟨List.prefix_refl _,λ b o e n Z=>kf b o e λ q=>n (q▸hDl),λ Z q=>.inl q,rfl⟩,λ Z Z q=>q.elim⟩
  have up:=λ p v r=>Im g.toGrow0 (Ab _ _) st.idOk p v r
  have rr:Ef B.w J s'.heap (.list (l++S7 l1 l2)) o':=⟨hc'.1,hc'.2.1,hc'.2.2,us++vs',c',hd',(Sx g.toGrow0 (Ab _ _) st.idOk _ _ rl0).append
   (Aly (h0:=s.heap) up (λ T hT q=>(st.alive T q).elim λ o e=>nomatch hT.symm.trans (kb _ _ e)) 0 (vs0:=vs.toArray) (ws0:=ws.toArray) r1 r2 (λ j=>by rw [Nat.zero_add];exact List.getElem?_toArray ..) (λ j=>by rw [Nat.zero_add];exact List.getElem?_toArray ..) hl' λ j hj=>by rw [Nat.zero_add];exact hv' j hj)⟩
  refine h s' ⟨g,mb.trans m,⟨λ b o e=>kf _ _ (st.base b o e) λ q=>(nomatch e.symm.trans (q.symm▸st.fresh D hDJ:B.h₀.get? b=none)),st.fresh,st.low,st.nodup,st.len,λ j b ej=>?_,λ b q=>?_⟩,st.idOk,Ab _ _⟩
  ·by_cases hj:j=i
   ·subst hj
    cases ea.symm.trans ej
    exact ⟨o',hD',hp.1.symm▸rr⟩
   ·obtain ⟨o1,e2,r⟩:=st.objs j b ej
    have hb:b≠D:=λ q=>by
     obtain ⟨h1,e1⟩:=List.getElem?_eq_some_iff.mp ea
     obtain ⟨h2,e3⟩:=List.getElem?_eq_some_iff.mp ej
     exact hj ((List.getElem_inj st.nodup).mp (e3.trans (q.trans e1.symm)))
    exact ⟨o1,kf _ _ e2 hb,(hp.2 j hj).symm▸r.grow0 g.toGrow0 (Ab _ _) st.idOk⟩
  ·obtain ⟨n,o,e,r⟩:=st.hid b q
   exact ⟨n,o,kf b o e λ q=>n (q▸hDl),r⟩
def Avs (f:EF) (l:LF):EF:=λ ρ σ k=>f ρ σ λ p σ=>Qq (λ i=>Qm i σ λ Z=>l ρ σ λ ps σ=>Au6 ps λ a b=>Qm i σ λ xs=>bC false (bC false (Oa xs (S7 a b) λ xs=>Cb i (.list xs) σ (k .none)) (An xs)) (An a)) p
theorem Aji {value:Expr} {apos pos np pos2:Pos} {x:Str} {args:List Expr} {f:EF} {l:LF} (pa:PlainAttrs "list") (slot:Slot "list" "extend" "list.extend") (hty:typeOf (.builtin "list.extend")=pure (.type "method_descriptor"))
  (hx:nsIn B.K mainGlobals x=some none) (hk:ks.lookup x=some .globalImplicit) (hd:(x==("__debug__":Str))=false) (hb:bootBuiltins x=some (.type "zip")) (hn:x≠"__name__")
  (hsel:SEL B d ks xs args l) (hv:SE B d ks xs value f)
  (hs:∀ env,starEach [Expr.Call (.Name x np) args [] pos2] env=[(false,eval (.Call (.Name x np) args [] pos2) env)])
  (he:∀ env,∃ pl,eval (.Call (.Attribute value "extend" apos) [.Call (.Name x np) args [] pos2] [] pos) env=(do
   let ov<-eval value env
   standAt apos.atName
   let (f,first)<-holding [ov] (getMethod ov "extend" pl)
   callWith pos f first (backTo pos (starEach [.Call (.Name x np) args [] pos2] env)) [])):
  SE B d ks xs (.Call (.Attribute value "extend" apos) [.Call (.Name x np) args [] pos2] [] pos) (Avs f l):=λ A s env ρ J σ hR hE hS k Q E e hQ=>by
 obtain ⟨pl,he⟩:=he env
 refine MethodCall_ (pl:=pl) (hv A s env ρ J σ hR hE hS _ _ E e λ v s1 J1 p σ1 e x1 r1=>?_) he
 refine Aa4 (k:=λ i=>Qm i σ1 λ Z=>l ρ σ1 λ ps σ=>Au6 ps λ a b=>Qm i σ λ xs=>bC false (bC false (Oa xs (S7 a b) λ xs=>Cb i (.list xs) σ (k .none)) (An xs)) (An a)) e r1 λ i D e ea=>
  Nv (k:=λ Z=>l ρ σ1 λ ps σ=>Au6 ps λ a b=>Qm i σ λ xs=>bC false (bC false (Oa xs (S7 a b) λ xs=>Cb i (.list xs) σ (k .none)) (An xs)) (An a)) e x1.st ea λ Z Z Z e ho Z=>?_
 refine getMethod_builtin ⟨_,ho,rfl⟩ pa slot hty (λ b q=>by cases q;exact ⟨_,ho,rfl⟩) ?_
 have hany:(starEach [Expr.Call (.Name x np) args [] pos2] env).any (·.1)=false:=by rw [hs];rfl
 refine callWith_builtin ((A9 _ _).trans hany) (Bo ((A9 _ _).trans hany) ?_)
 rw [hs]
 show wpAny _ _ (spliced ((false,eval (.Call (.Name x np) args [] pos2) env)::backTo pos [])) _ _ _
 refine spliced_cons (Avb (k:=λ a b σ=>Qm i σ λ xs=>bC false (bC false (Oa xs (S7 a b) λ xs=>Cb i (.list xs) σ (k .none)) (An xs)) (An a)) hx hk hd hb hn hsel hR (hE.up x1) x1.st e λ sb s2 J2 σ2 a b z TI TO i1 i2 t1 t2 vs ws e x2 k2 m2 rz=>zzb ?_)
 have ea2:=Df x2.g.pre ea
 refine Nv (k:=λ xs=>bC false (bC false (Oa xs (S7 a b) λ xs=>Cb i (.list xs) σ2 (k .none)) (An xs)) (An a)) e x2.st ea2 λ xs us n e ho rl=>Bs e λ ha e=>Bs e λ hz e=>?_
 rw [I6] at e
 exact M0 e λ t' hp e=>Aii (hR.mono (Nat.zero_le _)) x2.st k2 m2 ea2 ho rl rz (Ap hz) (Ap ha) hp λ s3 x3=>hQ .none s3 J2 .none _ e (x1.trans (x2.trans x3)) Zc
end
end
section
open PySem.SeqAt MeetsSeq MeetsSeq2 MeetsSeq3 SeqRoads2
def EqW (prog:Program) (w:World) (A:Around) (s:Shared) (y x:Value) (b:Bool):Prop:=
 ∀ (E:Value->Shared->Prop) (Q:Bool->Shared->Prop),Q b s->wpAny (model prog w) A (eqBool y x) Q E s
section
variable {prog:Program} {w:World}
theorem Ao3 (a:Addr) (l:List (Value×Bool)) (n:Nat) (dd:Option Addr) (sl:Array (Option Value)) (x:Value) (k:Nat):∀ i:Nat,l.length - i=k ->
  MeetsIn prog w (Builtin.«list.__contains__.loop» ⟨[.ref a,x,rawInt i],[]⟩)
   (λ A R s=>s.heap.get? a=some {cls:=.type "list",dict:=dd,data:=.seq (l.map (·.1)).toArray n,slots:=sl}/\(∀ y∈l,EqW prog w A.in1 s y.1 x y.2)/\R (.ok (.ret (.bool ((l.drop i).any (·.2))))) s):=by
 induction k with
 | zero=>
  intro i hk A R s ⟨hl,he,h⟩
  obtain ⟨hp,g,d,tk,os⟩:=s
  wp_walk using AutoSeq1.wpAny_loadPart' hl
  have hi:(l.map (·.1)).toArray[((i:Nat):Int).toNat]?=none:=by simp;omega
  have hd:l.drop i=[]:=by simp;omega
  rw [hd] at h
  rw [hi]
  wp_walk
  exact h
 | succ k ih=>
  intro i hk A R s ⟨hl,he,h⟩
  obtain ⟨hp,g,d,tk,os⟩:=s
  wp_walk using AutoSeq1.wpAny_loadPart' hl
  have hlt:i<l.length:=by omega
  have hi:(l.map (·.1)).toArray[((i:Nat):Int).toNat]?=some l[i].1:=by simp [hlt]
  have hd:l.drop i=l[i]::l.drop (i+1):=List.drop_eq_getElem_cons hlt
  rw [hd,List.any_cons] at h
  rw [hi]
  refine zza (he _ (List.getElem_mem hlt) _ _ ?_)
  cases hb:l[i].2 with
  | true=>
   rw [hb] at h
   wp_walk
   exact h
  | false=>
   rw [hb] at h
   have hc:((i:Int)+1)=((i+1:Nat):Int):=by push_cast;rfl
   wp_walk
   rw [hc]
   exact ⟨plainId_quiet plain_contains_loop _,codeAny_builtin entry_contains_loop (by
    rw [Around.under_plainId plain_contains_loop _]
    exact ih (i+1) (by omega) A R _ ⟨hl,he,by simpa using h⟩)⟩
theorem Ao2 {A:Around} {E:Value->Shared->Prop} {s:Shared} {a:Addr} {l:List (Value×Bool)} {n:Nat} {dd:Option Addr} {sl:Array (Option Value)} {x:Value} {Q:Bool->Shared->Prop}
  (hl:s.heap.get? a=some {cls:=.type "list",dict:=dd,data:=.seq (l.map (·.1)).toArray n,slots:=sl}) (he:∀ y∈l,EqW prog w A.in1 s y.1 x y.2) (h:Q (l.any (·.2)) s):
  wpAny (model prog w) A (contains (.ref a) x) Q E s:=by
 have hT:s.TypeIs (.ref a) "list":=⟨_,hl,rfl⟩
 refine wpAny_contains_slot hT PySem.F.slot_list_contains (call_meetsIn PySem.F.slot_list_contains hT PySem.F.entry_list_contains (PySem.F.args_list_contains_2 _ _)
  (S:=λ A R s=>s.heap.get? a=some {cls:=.type "list",dict:=dd,data:=.seq (l.map (·.1)).toArray n,slots:=sl}/\(∀ y∈l,EqW prog w A.in1 s y.1 x y.2)/\R (.ok (.ret (.bool (l.any (·.2))))) s) (λ A R s ⟨hl,he,h⟩=>?_) ⟨hl,he,wpAny_truthy_bool h⟩)
 obtain ⟨hp,g,d,tk,os⟩:=s
 wp_walk using AutoSeq1.wpAny_loadPart' hl
 exact ⟨plainId_quiet plain_contains_loop _,codeAny_builtin entry_contains_loop (by
  rw [Around.under_plainId plain_contains_loop _]
  exact Ao3 a l n dd sl x _ 0 rfl A R _ ⟨hl,he,by simpa using h⟩)⟩
end
section
variable {w:World} {J:Aj} {h:Heap}
theorem Ahg {x:Nat} {kvs:List (PV×PV)} {es:List DictEntry} (r:Bg w J h kvs es) (hs:∀ y∈kvs,∃ z,y.1=.str z):(Mn (.str x) kvs=none->valueAt (F6 kvs es) (⟨(Ba x).toArray⟩:Str)=none) /\
  ∀ i y,Mn (.str x) kvs=some i->kvs[i]?=some y->∃ v,valueAt (F6 kvs es) (⟨(Ba x).toArray⟩:Str)=some v/\Ae J h y.2 v:=by
 induction r with
 | nil=>exact ⟨λ Z=>rfl,λ i y e=>nomatch e⟩
 | @cons p q e' l es rp rq _ _ ih=>
  obtain ⟨z,rfl⟩:∃ z,p=.str z:=hs _ zzf
  obtain ⟨ih1,ih2⟩:=ih λ y hy=>hs y (zze _ hy)
  rw [Fq]
  cases hb:D9 (.str z) (.str x) with
  | true=>
   have hb:Nat.beq z x=true:=hb
   cases zzh hb
   refine ⟨λ e=>(nomatch e),λ i y e hy=>?_⟩
   cases e
   cases hy
   refine ⟨e'.val,?_,rq⟩
   show Option.map _ (List.find? _ (((⟨(Ba x).toArray⟩:Str),e'.val)::F6 l es))=_
   rw [List.find?_cons_of_pos (by simp)];rfl
  | false=>
   have hb:Nat.beq z x=false:=hb
   rw [Fo,beq_eq_false_iff_ne] at hb
   have step:valueAt (F6 ((.str z,q)::l) (e'::es)) (⟨(Ba x).toArray⟩:Str)=valueAt (F6 l es) (⟨(Ba x).toArray⟩:Str):=by
    show Option.map _ (List.find? _ (((⟨(Ba z).toArray⟩:Str),e'.val)::F6 l es))=_
    rw [List.find?_cons_of_neg (by simpa using hb)];rfl
   rw [if_neg Bool.false_ne_true,step]
   refine ⟨λ e=>ih1 (Option.map_eq_none_iff.mp e),λ i y e hy=>?_⟩
   obtain ⟨j,hj,rfl⟩:=Option.map_eq_some_iff.mp e
   exact ih2 j y hj hy
def Aok (a l:List (PV×PV)) (k:Bool->Bool):Bool:=@List.rec _ (λ Z=>(Bool->Bool)->Bool) (λ k=>k true) (λ x Z ih k=>@Prod.rec _ _ (λ Z=>Bool) (λ p q=>Ih p a (k false) λ u=>eqK 60 q u λ e=>ih λ c=>k (and e c)) x) l k
theorem A09 {A:Around} {s:Shared} (hu:A.units+60<cLine) {a:List (PV×PV)} {ea:List DictEntry} (ra:Bg w J s.heap a ea) (ha:∀ y∈a,∃ z,y.1=.str z) {b:List (PV×PV)} {eb:List DictEntry} (rb:Bg w J s.heap b eb):(∀ y∈b,∃ z,y.1=.str z) ->
  ∀ {k:Bool->Bool},Aok a b k=true->∃ r,k r=true/\KeqHits A s (F6 a ea) (F6 b eb) r:=by
 induction rb with
 | nil=>exact λ Z k e=>⟨true,e,.nil⟩
 | @cons p q e' l es rp rq _ _ ih=>
  intro hb k e
  obtain ⟨z,rfl⟩:∃ z,p=.str z:=hb _ zzf
  obtain ⟨v1,v2⟩:=Ahg (x:=z) ra ha
  refine Af7 (show Ih (.str z) a (k false) (λ u=>eqK 60 q u λ e=>Aok a l λ c=>k (and e c))=true from e) (λ hi e=>⟨false,e,.miss (v1 hi)⟩) λ i y hi hy e=>?_
  obtain ⟨v,hv,rv⟩:=v2 i y hi hy
  obtain ⟨b1,e,q1⟩:=Amm (A:=A) 60 q y.2 e'.val v _ hu e rq rv
  obtain ⟨c,e,hc⟩:=ih (λ y hy=>hb y (zze _ hy)) e
  exact ⟨_,e,.hit hv q1.e hc⟩
end
section
variable {B:Aq}
def Ya (k0:Nat) (a:List (PV×PV)) (σ:PS) (l:List PV) (κ:Bool->Bool):Bool:=@List.rec _ (λ Z=>(Bool->Bool)->Bool) (λ κ=>κ false) (λ p Z ih κ=>Qq (λ j=>bC (V0 j σ λ b Z=>bC false (bC (ih κ) (Aok a b λ e=>ih λ c=>κ (or e c)) (Nat.beq (len b) (len a))) (Bj b)) (ih λ Z=>κ true) (Nat.beq j k0)) p) l κ
theorem Avp {A:Around} {s:Shared} {J:Aj} {σ:PS} (hu:A.units+99<cLine) (st:St B J σ s.heap) {k0:Nat} {x:Addr} {a:List (PV×PV)} {es:List DictEntry} {n:Nat} (ex:J.l[k0]?=some x) (ho:s.heap.get? x=some (dictOf es n)) (hko:Bw a) (rd:Bg B.w J s.heap a es) (hsa:Bj a=true):
  ∀ (l:List PV) (vs:List Value) (κ:Bool->Bool),RepL J s.heap l vs->Ya k0 a σ l κ=true->∃ bs:List (Value×Bool),bs.map (·.1)=vs/\(∀ y∈bs,EqW B.prog B.w A.in1 s y.1 (.ref x) y.2)/\κ (bs.any (·.2))=true
 | [],vs,κ,rl,e=>⟨[],(show vs=[] from rl).symm,λ y hy=>absurd hy zzj,e⟩
 | p::l,vs,κ,rl,e=>by
  obtain ⟨v,vs,rfl,rv,rl'⟩:=(rl:∃ v r,vs=v::r/\Ae J s.heap p v/\RepL J s.heap l r)
  refine Aa4 (k:=λ j=>bC (V0 j σ λ b Z=>bC false (bC (Ya k0 a σ l κ) (Aok a b λ e=>Ya k0 a σ l λ c=>κ (or e c)) (Nat.beq (len b) (len a))) (Bj b)) (Ya k0 a σ l λ Z=>κ true) (Nat.beq j k0)) e rv λ j y e ey=>?_
  have fin:∀ {b:Bool} {κ':Bool->Bool},EqW B.prog B.w A.in1 s (.ref y) (.ref x) b->Ya k0 a σ l κ'=true->(∀ c,κ' c=κ (b||c))->∃ bs:List (Value×Bool),bs.map (·.1)=.ref y::vs/\(∀ y∈bs,EqW B.prog B.w A.in1 s y.1 (.ref x) y.2)/\κ (bs.any (·.2))=true:=λ {b κ'} hb e hκ=>by
   obtain ⟨bs,h1,h2,h3⟩:=Avp hu st ex ho hko rd hsa l vs κ' rl' e
   exact ⟨(.ref y,b)::bs,by rw [List.map_cons,h1],λ z hz=>(List.mem_cons.mp hz).elim (λ q=>q▸hb) (h2 z),by rw [List.any_cons,<-hκ];exact h3⟩
  cases hjk:Nat.beq j k0 with
  | true=>
   rw [hjk] at e
   cases zzh hjk
   cases ey.symm.trans ex
   exact fin (b:=true) (λ E Q hq=>EqAt.same _ B.prog B.w E Q hq) e λ Z=>rfl
  | false=>
   rw [hjk] at e
   have hne:y≠x:=λ q=>Nat.ne_of_beq_eq_false hjk (by
    obtain ⟨h1,e1⟩:=List.getElem?_eq_some_iff.mp ey
    obtain ⟨h2,e2⟩:=List.getElem?_eq_some_iff.mp ex
    exact (List.getElem_inj st.nodup).mp (e1.trans (q.trans e2.symm)))
   refine Eo (k:=λ b Z=>bC false (bC (Ya k0 a σ l κ) (Aok a b λ e=>Ya k0 a σ l λ c=>κ (or e c)) (Nat.beq (len b) (len a))) (Bj b)) e st ey λ b f o es' n' e Z ho' hc hk' hd Z rd'=>Bs e λ hsb e=>?_
   have dof:∀ {h:Heap} {a:Addr} {kvs:List (Str×Value)} {n:Nat},h.DictAt (PySem.strKind B.prog B.w) a kvs n->h.DictOf (PySem.strKind B.prog B.w) a kvs:=λ d=>d.elim λ o d=>d.elim λ es d=>⟨o,es,_,d⟩
   have d1:=dof (Fp (prog:=B.prog) (Bm hc hd▸ho') hk' rd' hsb)
   have d2:=dof (Fp (prog:=B.prog) ho hko rd hsa)
   have la:(F6 a es).length=a.length:=Cu rd
   have lb:(F6 b es').length=b.length:=Cu rd'
   have hu1:A.in1.units<cLine:=by show A.units+1<_;omega
   have hu2:A.in1.in1.units+60<cLine:=by show A.units+1+1+60<_;omega
   have eqw:∀ r,((F6 b es').length=(F6 a es).length->KeqHits A.in1.in1 s (F6 a es) (F6 b es') r)->EqW B.prog B.w A.in1 s (.ref y) (.ref x) ((F6 b es').length==(F6 a es).length&&r):=λ r hits E Q hq=>by
    unfold eqBool
    refine zzg (wpAny_ite_split (λ hab=>absurd (by have:=eq_of_beq hab;injection (this)) hne) λ Z=>zza (keq_eq (r:=r) (st.low y (Aj.at ey)) (st.low x (Aj.at ex)) d1 d2 hu1 hits (wpAny_truthy_bool hq)))
   cases hl:Nat.beq (len b) (len a) with
   | true=>
    rw [hl] at e
    obtain ⟨r,e,hits⟩:=A09 (A:=A.in1.in1) hu2 rd (C1 hsa hko) rd' (C1 hsb hk') e
    have hl:=zzh hl
    rw [By,By] at hl
    have:=eqw r λ Z=>hits
    rw [la,lb,hl,beq_self_eq_true,Bool.true_and] at this
    exact fin this e λ Z=>rfl
   | false=>
    rw [hl] at e
    have hl:=Nat.ne_of_beq_eq_false hl
    rw [By,By] at hl
    have:=eqw false λ q=>absurd (lb.symm.trans (q.trans la)) hl
    rw [Bool.and_false] at this
    exact fin this e λ c=>rfl
def Agn:CO:=λ p q σ k=>Qq (λ k0=>V0 k0 σ λ a Z=>bC false (Ff q σ λ l=>Ya k0 a σ l (nt λ b=>k b σ)) (Bj a)) p
theorem Ajh:SC B .NotIn Agn:=λ A s J σ p q u v hR st ru rv k Q E e hQ=>by
 refine Aa4 (k:=λ k0=>V0 k0 σ λ a Z=>bC false (Ff q σ λ l=>Ya k0 a σ l (nt λ b=>k b σ)) (Bj a)) e ru λ k0 x e ex=>Eo (k:=λ a Z=>bC false (Ff q σ λ l=>Ya k0 a σ l (nt λ b=>k b σ)) (Bj a)) e st ex λ a f o es n e Z ho hc hk hd Z rd=>Bs e λ hs e=>?_
 refine Aa3 (k:=λ l=>Ya k0 a σ l (nt λ b=>k b σ)) e st rv λ l y vs e hl rl=>?_
 obtain ⟨bs,rfl,h2,e⟩:=Avp (A:=A) (by have:=hR.2.1;omega) st ex (Bm hc hd▸ho) hk rd hs l vs _ rl e
 obtain ⟨⟨cls,dd,data,sl⟩,ho,hc,n,hd⟩:=hl
 cases hc;cases hd
 show wpAny _ _ (do return .bool (!(<- contains (.ref y) (.ref x)))) Q E s
 exact zza (Ao2 ho h2 (zzb (hQ (!bs.any (·.2)) s J σ (Qg (k:=λ b=>k b σ) e) (.refl st (Ab _ _)))))
end
end
section
def G8 {α:Type} (p:α->Prop):List α->Prop
 | []=>True
 | x::l=>p x/\G8 p l
theorem G8.get {α:Type} {p:α->Prop}:∀ {l:List α} {i:Nat} {x:α},G8 p l->l[i]?=some x->p x
 | y::l,0,x,h,e=>by cases e;exact h.1
 | y::l,i+1,x,h,e=>G8.get (i:=i) h.2 e
 | [],_,_,_,e=>by cases e
theorem G8.lk {α β:Type} [BEq α] [LawfulBEq α] {p:α×β->Prop}:∀ {l:List (α×β)} {x:α} {y:β},G8 p l->l.lookup x=some y->p (x,y)
 | (z,w)::l,x,y,h,e=>by
  rw [List.lookup_cons] at e
  cases hb:x==z with
  | true=>
   rw [hb] at e;cases e
   have:=eq_of_beq hb
   subst this;exact h.1
  | false=>rw [hb] at e;exact G8.lk h.2 e
 | [],_,_,_,e=>by cases e
def Qo (i:Nat):Option Stmt:=PySem.Challenge.pw_pq0105_01.main.body[i]?
def Fm (i j:Nat):Option Stmt:=match Qo i with
 | some (.ClassDef _ _ _ b _ _ _ _ _ _ _)=>b[j]?
 | _=>none
def Axd (fd:FuncData) (as:Arguments) (body:List Stmt) (sc:Scope):Prop:=fd.params=as/\fd.body=.stmts body/\fd.scope=sc/\fd.closure=[]/\fd.globals=mainGlobals/\fd.builtins=builtinsNs/\fd.defaults=.none
def fdV (st:Option Stmt):Option (Arguments×List Stmt×Scope):=match st with
 | some (.FunctionDef _ as body _ _ _ sc _ _ _)=>some (as,body,sc)
 | _=>none
def Avf (K:Frag) (a:Nat) (st:Option Stmt):Prop:=∃ V oc od fd osl,fdV st=some V/\K.lookup a=some ⟨oc,od,.func fd,osl⟩/\Axd fd V.1 V.2.1 V.2.2/\codeIn K fd.code fd.qualname=true
def fnT:List (Nat×Option Stmt):=[(91,Qo 7),(98,Qo 8),(108,Qo 10),(103,Qo 9),(115,Qo 11),(122,Qo 12),(127,Qo 13),(141,Fm 14 0),(148,Fm 14 1),(160,Fm 14 3),(153,Fm 14 2),(186,Fm 14 7),(193,Fm 14 8),(238,Qo 17),(245,Qo 18),(252,Qo 19),(259,Qo 20),(264,Qo 21),(269,Qo 22),(276,Qo 23),(281,Qo 24),(286,Qo 25),(293,Qo 26),(298,Qo 27),(347,Fm 31 3),(354,Fm 31 4),(465,Fm 33 9),(444,Fm 33 6),(420,Fm 33 2),(437,Fm 33 5),(333,Fm 31 1),(340,Fm 31 2),(425,Fm 33 3),(430,Fm 33 4),(305,Qo 28),(451,Fm 33 7),(472,Fm 33 10),(312,Qo 29),(326,Fm 31 0),(361,Fm 31 5),(366,Fm 31 6),(408,Fm 33 0),(415,Fm 33 1),(458,Fm 33 8),(486,Fm 33 12),(493,Fm 33 13),(498,Fm 33 14),(538,Fm 35 0),(543,Fm 35 1),(550,Fm 35 2),(555,Fm 35 3),(575,Fm 38 0),(603,Fm 39 0),(608,Fm 39 1),(639,Fm 40 0),(646,Fm 40 1),(653,Fm 40 2),(658,Fm 40 3),(665,Fm 40 4),(670,Fm 40 5),(675,Fm 40 6),(696,Qo 43),(710,Fm 44 0),(717,Fm 44 1),(745,Fm 45 0),(773,Fm 46 0),(801,Fm 47 0),(808,Fm 47 1),(836,Fm 48 0),(843,Fm 48 1),(864,Qo 50),(869,Qo 51),(874,Qo 52),(879,Qo 53),(884,Qo 54),(889,Qo 55),(894,Qo 56),(901,Qo 57),(906,Qo 58)]
def gTb:List (Str×Nat):=[(("is_variable":Str),98),(("parts":Str),108),(("replaced":Str),122),(("part_at":Str),115),(("renamed":Str),127),(("is_op":Str),91),(("filled":Str),238),(("variables":Str),103),(("is_within":Str),252),(("followed":Str),245),(("in_turn":Str),264),(("worked_out":Str),269),(("begun":Str),259),(("unified":Str),276),(("apart":Str),281),(("mark_for":Str),286),(("grounded":Str),298),(("put_sides":Str),305),(("Unions":Str),390),(("Bank":Str),229),(("Placer":Str),623),(("Walker":Str),558),(("Rule":Str),585),(("laws_of":Str),696),(("_law_add":Str),869),(("_law_put":Str),874),(("_law_one":Str),879),(("_law_fits":Str),889),(("_law_close":Str),884),(("_law_pick":Str),864),(("Naturals":Str),853),(("Sets":Str),818),(("Lists":Str),783),(("Truths":Str),755),(("Ring":Str),727),(("are_joined":Str),312),(("_law_round":Str),894),(("overlaps":Str),293),(("_law_rules":Str),901),(("Runner":Str),678),(("Heap":Str),520)]
def bT:List Str:=["len","sorted","set","enumerate","tuple","max","sum","zip","list","dict","range","str","min","int"]
def mT:List (Nat×Str×Nat):=[(229,("require":Str),160),(520,("put":Str),430),(520,("are_like":Str),451),(520,("settle":Str),472),(390,("find":Str),347),(390,("__init__":Str),326),(229,("__init__":Str),141),(229,("size":Str),148),(229,("op":Str),186),(520,("find":Str),444),(229,("kids":Str),193),(520,("look_at":Str),437),(390,("make":Str),333),(390,("size":Str),340),(229,("take":Str),153),(520,("add":Str),425),(520,("join":Str),465),(520,("node":Str),420),(390,("merge":Str),354),(390,("classes":Str),366),(390,("members":Str),361),(520,("members":Str),493),(520,("nodes_of":Str),498),(558,("extended":Str),543),(558,("found_in":Str),550),(520,("classes":Str),486),(623,("put":Str),608),(623,("__init__":Str),603),(558,("__init__":Str),538),(520,("size":Str),415),(558,("found":Str),555),(520,("merge":Str),458),(678,("is_full":Str),646),(678,("apply":Str),658),(678,("apply_all":Str),665),(678,("matches":Str),653),(678,("one_round":Str),670),(585,("__init__":Str),575),(727,("rules":Str),717),(755,("rules":Str),745),(783,("rules":Str),773),(818,("rules":Str),808),(853,("rules":Str),843),(853,("__init__":Str),836),(818,("__init__":Str),801),(727,("__init__":Str),710),(678,("run":Str),675),(678,("__init__":Str),639),(520,("__init__":Str),408)]
def aT:List (Str×Nat):=[(("nodes":Str),0x7400033000194000e00006f),(("numbers":Str),0x1d0000e600066000318001b8000ec0006f),(("weights":Str),0x1d0000ea00069000340001a8000cc00078),(("depths":Str),0xe8000690003a8001c4000cc00065),(("left":Str),0x3a80019c000cc0006d),(("right":Str),0x75000348001a0000d400073),(("above":Str),0x660003b8001c0000c600062),(("lots":Str),0x3a0001d4000e00006d),(("merged":Str),0xca00066000340001cc000cc0006e),(("bank":Str),0x360001bc000c400063),(("unions":Str),0xe80006f000380001a8000de00076),(("edges":Str),0x74000330001a0000ca00066),(("forest":Str),0xea00074000330001cc000e000067),(("known":Str),0x6f0003c0001c0000de0006c),(("waiting":Str),0x1a0000de0006a0003a8001a8000c400078),(("heap":Str),0x38800188000cc00069),(("name":Str),0x330001b8000c40006f),(("needs":Str),0x7400032800198000cc0006f),(("options":Str),0x1d0000de00070000350001d4000e200070),(("walker":Str),0xe600066000360001b4000c400078),(("placer":Str),0xe60006600032000188000da00071),(("history":Str),0x1e8000e6000700003a8001d0000d400069),(("rounds":Str),0xe800065000378001d8000e000073),(("rests":Str),0x740003a8001d0000cc00073),(("wakes":Str),0x74000330001b0000c400078),(("n":Str),111),(("whole":Str),0x66000368001c0000d200078),(("most":Str),0x3a8001d0000e00006e),(("rules":Str),0x74000330001b4000ec00073)]
def tT':List (Str×Nat×List Nat):=[("A",683,[205520960]),("B",684,[207618112]),("C",685,[209715264]),("ORDERS",563,[0x39800198000d200075000330001a0000e000075,0x74000378001cc000ec00075,0x740003a8001d0000cc00073])]
structure Xt (K:Frag):Prop where
 fn:G8 (λ r=>Avf K r.1 r.2) fnT
 g:G8 (λ x=>nsIn K mainGlobals x.1=some (some (.ref x.2))) gTb
 b:G8 (λ x=>nsIn K mainGlobals x=some none) bT
 int:∃ t,nsIn K mainGlobals "MOST_SIZE"=some (some (.int 10000 t))
 tup:G8 (λ x=>nsIn K mainGlobals x.1=some (some (.ref x.2.1))/\∃ vs n osl,K.lookup x.2.1=some ⟨.type "tuple",none,.seq (List.toArray vs) n,osl⟩/\Ww x.2.2 vs=true) tT'
 m:G8 (λ x=>plainGet K x.1 x.2.1=true/\findIn K (.ref x.1) x.2.1=some (some (.ref x.2.2))/\typeIn K (.ref x.2.2)=some (.type "function")) mT
 at_:G8 (λ x=>H4 K x.1 x.2=true) aT
 sets:Y4 K=true
 made:G8 (λ C=>keepIn K (.ref C)=true/\makesIn K C=true) D3
 i0:findIn K (.ref 755) "__init__"=some (some (.builtin "object.__init__"))/\findIn K (.ref 783) "__init__"=some (some (.builtin "object.__init__"))
theorem bd0 {P:List Value->Prop} (h:P []):∀ vs:List Value,vs.length=0->P vs
 | [],_=>h
theorem bdS {P:List Value->Prop} {k:Nat} (h:∀ a vs,vs.length=k->P (a::vs)):∀ vs:List Value,vs.length=k+1->P vs
 | a::r,e=>h a r (Nat.succ.inj e)
theorem Ru {P:List Value->Prop} (h:∀ a,P [a]):∀ vs:List Value,vs.length=1->P vs:=bdS λ a=>bd0 (P:=λ r=>P (a::r)) (h a)
theorem Nr {P:List Value->Prop} (h:∀ a b,P [a,b]):∀ vs:List Value,vs.length=2->P vs:=bdS λ a=>Ru (P:=λ r=>P (a::r)) (h a)
theorem bd3 {P:List Value->Prop} (h:∀ a b c,P [a,b,c]):∀ vs:List Value,vs.length=3->P vs:=bdS λ a=>Nr (P:=λ r=>P (a::r)) (h a)
theorem bd4 {P:List Value->Prop} (h:∀ a b c d,P [a,b,c,d]):∀ vs:List Value,vs.length=4->P vs:=bdS λ a=>bd3 (P:=λ r=>P (a::r)) (h a)
theorem bd5 {P:List Value->Prop} (h:∀ a b c d e,P [a,b,c,d,e]):∀ vs:List Value,vs.length=5->P vs:=bdS λ a=>bd4 (P:=λ r=>P (a::r)) (h a)
theorem Ac7:bootBuiltins "len"=some (.builtin "len")/\(("len":Str)==("__debug__":Str))=false/\("len":Str)≠"__name__":=by decide +kernel
theorem Axv:bootBuiltins "sum"=some (.builtin "sum")/\(("sum":Str)==("__debug__":Str))=false/\("sum":Str)≠"__name__":=by decide +kernel
theorem Axs:bootBuiltins "max"=some (.builtin "max")/\(("max":Str)==("__debug__":Str))=false/\("max":Str)≠"__name__":=by decide +kernel
theorem Axt:bootBuiltins "min"=some (.builtin "min")/\(("min":Str)==("__debug__":Str))=false/\("min":Str)≠"__name__":=by decide +kernel
theorem D6:bootBuiltins "sorted"=some (.builtin "sorted")/\(("sorted":Str)==("__debug__":Str))=false/\("sorted":Str)≠"__name__":=by decide +kernel
theorem Axr:bootBuiltins "int"=some (.type "int")/\(("int":Str)==("__debug__":Str))=false/\("int":Str)≠"__name__":=by decide +kernel
theorem Axu:bootBuiltins "str"=some (.type "str")/\(("str":Str)==("__debug__":Str))=false/\("str":Str)≠"__name__":=by decide +kernel
theorem Aoc:bootBuiltins "tuple"=some (.type "tuple")/\(("tuple":Str)==("__debug__":Str))=false/\("tuple":Str)≠"__name__":=by decide +kernel
theorem Wn:bootBuiltins "list"=some (.type "list")/\(("list":Str)==("__debug__":Str))=false/\("list":Str)≠"__name__":=by decide +kernel
theorem Ar2:bootBuiltins "dict"=some (.type "dict")/\(("dict":Str)==("__debug__":Str))=false/\("dict":Str)≠"__name__":=by decide +kernel
theorem Aob:bootBuiltins "range"=some (.type "range")/\(("range":Str)==("__debug__":Str))=false/\("range":Str)≠"__name__":=by decide +kernel
theorem Ah7:bootBuiltins "set"=some (.type "set")/\(("set":Str)==("__debug__":Str))=false/\("set":Str)≠"__name__":=by decide +kernel
theorem Tj:bootBuiltins "zip"=some (.type "zip")/\(("zip":Str)==("__debug__":Str))=false/\("zip":Str)≠"__name__":=by decide +kernel
theorem H6:bootBuiltins "enumerate"=some (.type "enumerate")/\(("enumerate":Str)==("__debug__":Str))=false/\("enumerate":Str)≠"__name__":=by decide +kernel
section
variable {ks:List (Str×NameKind)} {xs:List Str}
def Aoj (ks:List (Str×NameKind)) (xs xs':List Str) (scope:Scope) (m:Nat) (js:List Nat):Bool:=
 decide (scope.kind=.function)&&scope.names.all (λ x=>!decide (x.2=.free)||(decide (ks.lookup x.1=some .cell)&&decide (x.1∈xs)))&&scope.names.all (λ x=>!decide (x.2=.cell))&&decide ((scope.names.map (·.1)).Nodup) &&
  Yf ks (Sw ks scope.names) xs js (xs'.drop m)&&(xs'.take m).all (λ x=>decide ((Sw ks scope.names).lookup x=some .local))&&decide xs'.Nodup
theorem Ami {xs':List Str} {scope:Scope} {m:Nat} {js:List Nat} (h:Aoj ks xs xs' scope m js=true):P4 ks (Sw ks scope.names) xs xs' scope m js:=by
 unfold Aoj at h
 simp only [Bool.and_eq_true,decide_eq_true_eq,List.all_eq_true,Bool.or_eq_true,Bool.not_eq_true',decide_eq_false_iff_not] at h
 obtain ⟨⟨⟨⟨⟨⟨h1,h2⟩,h3⟩,h4⟩,h5⟩,h6⟩,h7⟩:=h
 exact ⟨h1,rfl,λ x hx hf=>(h2 x hx).resolve_left λ q=>q hf,λ x hx=>h3 x hx,h4,h5,λ x hx=>h6 x hx,h7⟩
theorem Akq {P:Env->Prop} (h:∀ env:Env,P {env with scope:={env.scope with kind:=.function,names:=ks}}):∀ env:Env,env.scope.kind=.function->env.scope.names=ks->P env:=λ env h1 h2=>by
 have:=h env
 rw [<- h1,<-h2] at this
 exact this
end
end
section
structure Fl where
 t:Nat:=0
 x:Str:=Str.empty
 c:Const:=.none
 n:Nat:=0
 p:Pos
 e1:Expr:=.Constant .none 0 p
 e2:Expr:=.Constant .none 0 p
 e3:Expr:=.Constant .none 0 p
 es:List Expr:=[]
 ks:List (Option Expr):=[]
 o:Operator:=.Add
 cs:List CmpOp:=[]
 g:List Comprehension:=[]
 sc:Scope:=default
 i:Int:=0
def mk (F:Fl):Nat->Expr
 | 1=>.Name F.x F.p
 | 2=>.Constant F.c F.n F.p
 | 3=>.Tuple F.es F.n F.p
 | 4=>.List F.es F.p
 | 5=>.Dict F.ks F.es F.p
 | 6=>.Subscript F.e1 F.e2 F.p
 | 7=>.Attribute F.e1 F.x F.p
 | 8=>.Call F.e1 F.es [] F.p
 | 9=>.BinOp F.e1 F.o F.e2 F.p
 | 10=>.UnaryOp .Not F.e1 F.p
 | 11=>.UnaryOp .USub F.e1 F.p
 | 12=>.Compare F.e1 F.cs F.es F.p
 | 13=>.BoolOp .And F.es F.p
 | 14=>.BoolOp .Or F.es F.p
 | 15=>.IfExp F.e1 F.e2 F.e3 F.p
 | 16=>.JoinedStr F.es F.p
 | 17=>.FormattedValue F.e1 F.i none F.p
 | 18=>.ListComp F.e1 F.g F.sc F.p
 | 19=>.Slice none (some F.e1) none F.p
 | 20=>.Slice (some F.e1) none none F.p
 | _=>F.e1
def fl (e:Expr):Option {F:Fl // e=mk F F.t}:=match e with
 | .Name x p=>some ⟨{t:=1,x,p},rfl⟩
 | .Constant c n p=>some ⟨{t:=2,c,n,p},rfl⟩
 | .Tuple es n p=>some ⟨{t:=3,es,n,p},rfl⟩
 | .List es p=>some ⟨{t:=4,es,p},rfl⟩
 | .Dict ks es p=>some ⟨{t:=5,ks,es,p},rfl⟩
 | .Subscript e1 e2 p=>some ⟨{t:=6,e1,e2,p},rfl⟩
 | .Attribute e1 x p=>some ⟨{t:=7,e1,x,p},rfl⟩
 | .Call e1 es [] p=>some ⟨{t:=8,e1,es,p},rfl⟩
 | .BinOp e1 o e2 p=>some ⟨{t:=9,e1,o,e2,p},rfl⟩
 | .UnaryOp .Not e1 p=>some ⟨{t:=10,e1,p},rfl⟩
 | .UnaryOp .USub e1 p=>some ⟨{t:=11,e1,p},rfl⟩
 | .Compare e1 cs es p=>some ⟨{t:=12,e1,cs,es,p},rfl⟩
 | .BoolOp .And es p=>some ⟨{t:=13,es,p},rfl⟩
 | .BoolOp .Or es p=>some ⟨{t:=14,es,p},rfl⟩
 | .IfExp e1 e2 e3 p=>some ⟨{t:=15,e1,e2,e3,p},rfl⟩
 | .JoinedStr es p=>some ⟨{t:=16,es,p},rfl⟩
 | .FormattedValue e1 i none p=>some ⟨{t:=17,e1,i,p},rfl⟩
 | .ListComp e1 g sc p=>some ⟨{t:=18,e1,g,sc,p},rfl⟩
 | .Slice none (some e1) none p=>some ⟨{t:=19,e1,p},rfl⟩
 | .Slice (some e1) none none p=>some ⟨{t:=20,e1,p},rfl⟩
 | _=>none
def onB {α:Type} (o:Option α) (k:α->Bool):Bool:=match o with
 | some a=>k a
 | none=>false
theorem Ayq {α:Type} {C:Prop}:∀ {o:Option α} {k:α->Bool},onB o k=true->(∀ a,k a=true->C)->C
 | some a,_,h,H=>H a h
 | none,_,h,_=>nomatch h
theorem ba {a b:Bool} (h:(a&&b)=true):a=true/\b=true:=match a,b,h with
 | true,true,_=>⟨rfl,rfl⟩
def wE (t:Nat) (e:Expr) (k:Fl->Bool):Bool:=onB (fl e) λ F=>Nat.beq F.1.t t&&k F.1
theorem vE {P:Expr->Prop} {t:Nat} {k:Fl->Bool} {e:Expr} (h:wE t e k=true) (H:∀ F,k F=true->P (mk F t)):P e:=
 Ayq h λ ⟨F,e1⟩ h=>by
  rw [e1,Nat.eq_of_beq_eq_true (ba h).1]
  exact H F (ba h).2
def Anr (l:List Nat) (e:Expr):Bool:=onB (fl e) λ F=>l.any λ t=>Nat.beq F.1.t t
def An5 (P:Nat->Prop):List Nat->Prop
 | []=>True
 | t::l=>P t/\An5 P l
theorem An5.at {P:Nat->Prop} {t:Nat}:∀ {l:List Nat},An5 P l->(l.any λ u=>Nat.beq t u)=true->P t
 | [],_,h=>nomatch h
 | u::l,H,h=>(Bool.or_eq_true_iff.mp h).elim (λ h=>zzh h▸H.1) λ h=>An5.at H.2 h
theorem sh {P:Expr->Prop} {l:List Nat} {e:Expr} (h:Anr l e=true) (H:∀ F,An5 (λ t=>P (mk F t)) l):P e:=
 Ayq h λ ⟨F,e1⟩ h=>e1▸(H F).at h
def one {α:Type} (l:List α) (k:α->Bool):Bool:=match l with
 | [a]=>k a
 | _=>false
def two {α:Type} (l:List α) (k:α->α->Bool):Bool:=match l with
 | a::l=>one l (k a)
 | _=>false
theorem Wk {α:Type} {P:List α->Prop} {k:α->Bool}:∀ {l:List α},one l k=true->(∀ a,k a=true->P [a])->P l
 | [a],h,H=>H a h
 | [],h,_=>nomatch h
 | _::_::_,h,_=>nomatch h
theorem Ajz {α:Type} {P:List α->Prop} {k:α->α->Bool}:∀ {l:List α},two l k=true->(∀ a b,k a b=true->P [a,b])->P l
 | a::l,h,H=>Wk (P:=λ l=>P (a::l)) h (H a)
 | [],h,_=>nomatch h
structure Fs where
 t:Nat
 p:Pos
 e1:Expr:=.Constant .none 0 p
 e2:Expr:=.Constant .none 0 p
 b1:List Stmt:=[]
 ba:List Stmt:=[]
def mkS (F:Fs):Nat->Stmt
 | 1=>.Return (some F.e1) F.p
 | 2=>.If F.e1 F.b1 F.ba F.p
 | 3=>.While F.e1 F.b1 [] F.p
 | 4=>.For F.e1 F.e2 F.b1 [] F.p
 | 5=>.Expr F.e1 F.p
 | _=>.Assign [F.e1] F.e2 F.p
def fs (e:Stmt):Option {F:Fs // e=mkS F F.t}:=match e with
 | .Return (some e1) p=>some ⟨{t:=1,e1,p},rfl⟩
 | .If e1 b1 ba p=>some ⟨{t:=2,e1,b1,ba,p},rfl⟩
 | .While e1 b1 [] p=>some ⟨{t:=3,e1,b1,p},rfl⟩
 | .For e1 e2 b1 [] p=>some ⟨{t:=4,e1,e2,b1,p},rfl⟩
 | .Expr e1 p=>some ⟨{t:=5,e1,p},rfl⟩
 | .Assign [e1] e2 p=>some ⟨{t:=6,e1,e2,p},rfl⟩
 | _=>none
def wS (t:Nat) (e:Stmt) (k:Fs->Bool):Bool:=onB (fs e) λ F=>Nat.beq F.1.t t&&k F.1
theorem vS {P:Stmt->Prop} {t:Nat} {k:Fs->Bool} {e:Stmt} (h:wS t e k=true) (H:∀ F,k F=true->P (mkS F t)):P e:=
 Ayq h λ ⟨F,e1⟩ h=>by
  rw [e1,Nat.eq_of_beq_eq_true (ba h).1]
  exact H F (ba h).2
end
section
def Qs (e:Expr):Bool:=Anr [1,2,3,4,5,6,7,8,9,10,11,12,13,14,15,16,17,18] e
theorem Yq {e:Expr} (h:Qs e=true) (es:List Expr):∀ env,starEach (e::es) env=(false,eval e env)::starEach es env:=
 λ env=>sh (P:=λ e=>starEach (e::es) env=(false,eval e env)::starEach es env) h λ F=>⟨rfl,rfl,rfl,rfl,rfl,rfl,rfl,rfl,rfl,rfl,rfl,rfl,rfl,rfl,rfl,rfl,rfl,rfl,trivial⟩
theorem Ata {e:Expr} (h:Qs e=true) (es:List Expr):∀ env,assignEach (e::es) env=(false,assign e env)::assignEach es env:=
 λ env=>sh (P:=λ e=>assignEach (e::es) env=(false,assign e env)::assignEach es env) h λ F=>⟨rfl,rfl,rfl,rfl,rfl,rfl,rfl,rfl,rfl,rfl,rfl,rfl,rfl,rfl,rfl,rfl,rfl,rfl,trivial⟩
theorem Yo {e:Expr} (h:Qs e=true):∀ (env:Env) x,foldedSetIterable e env x=pure x:=
 λ env x=>sh (P:=λ e=>foldedSetIterable e env x=pure x) h λ F=>⟨rfl,rfl,rfl,rfl,rfl,rfl,rfl,rfl,rfl,rfl,rfl,rfl,rfl,rfl,rfl,rfl,rfl,rfl,trivial⟩
theorem Yp {e:Expr} {op:CmpOp} (h:Qs e=true):behindInMarks op e=false:=
 sh (P:=λ e=>behindInMarks op e=false) h λ F=>⟨rfl,rfl,rfl,rfl,rfl,rfl,rfl,rfl,rfl,rfl,rfl,rfl,rfl,rfl,rfl,rfl,rfl,rfl,trivial⟩
def Tx (e:Expr):Bool:=Anr [1,2,6,7,8,9,11] e
theorem Az2 {e:Expr} (h:Tx e=true):∀ o i,subscripted e false o i=operate [o,i] (getItem o i):=
 λ o i=>sh (P:=λ e=>subscripted e false o i=operate [o,i] (getItem o i)) h λ F=>⟨rfl,rfl,rfl,rfl,rfl,rfl,rfl,trivial⟩
theorem Az1 {o e:Expr} {pos:Pos} (h:Tx e=true):∀ env v,assign (.Subscript o e pos) env v=(do
  let ov<-holding [v] (eval o env)
  let iv<-holding [v,ov] (eval e env)
  standAt pos
  holding [v,ov,iv] (setItem ov iv v)
  release [v,ov,iv] []):=
 λ env v=>sh (P:=λ e=>assign (.Subscript o e pos) env v=(do
  let ov<-holding [v] (eval o env)
  let iv<-holding [v,ov] (eval e env)
  standAt pos
  holding [v,ov,iv] (setItem ov iv v)
  release [v,ov,iv] [])) h λ F=>⟨rfl,rfl,rfl,rfl,rfl,rfl,rfl,trivial⟩
theorem Atl {e:Expr} (h:Tx e=true):∀ env whole,isTrue e env whole=(do let v<-whole;standAt e.pos;holding [v] (truthy v)):=
 λ env whole=>sh (P:=λ e=>isTrue e env whole=(do let v<-whole;standAt e.pos;holding [v] (truthy v))) h λ F=>⟨rfl,rfl,rfl,rfl,rfl,rfl,rfl,trivial⟩
def Aix (e:Expr):Bool:=Anr [1,2,3,4,5,6,7,8,9,10,11,12,13,14,15,16,17] e
theorem Ale {e:Expr} {t:Option Expr} {n:Nat} (h:Aix e=true):∀ env,swapsWith e t n env=pure false:=
 λ env=>sh (P:=λ e=>swapsWith e t n env=pure false) h λ F=>⟨rfl,rfl,rfl,rfl,rfl,rfl,rfl,rfl,rfl,rfl,rfl,rfl,rfl,rfl,rfl,rfl,rfl,trivial⟩
theorem Aq8 {e o:Expr} {nm:Str} {q:Pos} {n:Nat} (h:Qs e=true):∀ env,swapsWith e (some (.Attribute o nm q)) n env=pure false:=
 λ env=>sh (P:=λ e=>swapsWith e (some (.Attribute o nm q)) n env=pure false) h λ F=>⟨rfl,rfl,rfl,rfl,rfl,rfl,rfl,rfl,rfl,rfl,rfl,rfl,rfl,rfl,rfl,rfl,rfl,rfl,trivial⟩
theorem Aq9 {e o i:Expr} {q:Pos} {n:Nat} (h:Qs e=true):∀ env,swapsWith e (some (.Subscript o i q)) n env=pure false:=
 λ env=>sh (P:=λ e=>swapsWith e (some (.Subscript o i q)) n env=pure false) h λ F=>⟨rfl,rfl,rfl,rfl,rfl,rfl,rfl,rfl,rfl,rfl,rfl,rfl,rfl,rfl,rfl,rfl,rfl,rfl,trivial⟩
theorem Y7 {e:Expr} {es:List Expr} {k:Nat} {q:Pos} {n:Nat} (h:Qs e=true):∀ env,swapsWithSole [.Tuple es k q] e n env=pure false:=
 λ env=>sh (P:=λ e=>swapsWithSole [.Tuple es k q] e n env=pure false) h λ F=>⟨rfl,rfl,rfl,rfl,rfl,rfl,rfl,rfl,rfl,rfl,rfl,rfl,rfl,rfl,rfl,rfl,rfl,rfl,trivial⟩
def Ald (e:Expr):Bool:=Anr [1,6,7] e||wE 8 e λ F=>wE 1 F.e1 λ Z=>!F.es.isEmpty
theorem Afi {e:Expr} {nm:Str} {env:Env} {t:Sem Value} (h:Ald e=true):attributeBase e nm env t=t:=by
 rcases Bool.or_eq_true_iff.mp h with h|h
 ·exact sh (P:=λ e=>attributeBase e nm env t=t) h λ F=>⟨rfl,rfl,rfl,trivial⟩
 ·refine vE (P:=λ e=>attributeBase e nm env t=t) h λ F h=>vE (P:=λ y=>attributeBase (.Call y F.es [] F.p) nm env t=t) h λ N h=>?_
  cases he:F.es with
  | nil=>rw [he] at h;exact absurd h Bool.false_ne_true
  | cons a r=>rfl
theorem Afv (pos:Pos) (env:Env):∀ es:List Expr,es.all Qs=true->(backTo pos (starEach es env)).all (!·.1)=true
 | [],_=>rfl
 | e::es,h=>by
  rw [Yq (ba h).1]
  exact Afv pos env es (ba h).2
def Yn (v:Expr) (ap pos:Pos) (es:List Expr):Bool:=Ald v&&(es.all Qs&&(Nat.blt es.length 30&&Nat.beq ap.endLine pos.line))
theorem So {v:Expr} {nm:Str} {ap pos:Pos} {es:List Expr} (h:Yn v ap pos es=true):∀ env,∃ pl,eval (.Call (.Attribute v nm ap) es [] pos) env=(do
   let ov<-eval v env
   standAt ap.atName
   let (f,first)<-holding [ov] (getMethod ov nm pl)
   callWith pos f first (backTo pos (starEach es env)) []):=by
 intro env
 obtain ⟨h1,h⟩:=ba h
 obtain ⟨h2,h⟩:=ba h
 obtain ⟨h3,h4⟩:=ba h
 refine ⟨do return (<- importBound v env).getD true,?_⟩
 show (attributeBase v nm env (eval v env) >>= λ ov=>standAt ap.atName >>= λ Z=>methodCall v nm ap pos env ov (es.length+0) (backTo pos (starEach es env)) [])=_
 rw [Afi h1]
 have hf:methodCallForm (es.length+0) (backTo pos (starEach es env)) []=true:=by
  show ((backTo pos (starEach es env)).all (!·.1)&&true&&decide (es.length+0+0<30))=true
  rw [Afv pos env es h2,decide_eq_true (show es.length+0+0<30 from Nat.le_of_ble_eq_true h3)]
  rfl
 have he:(ap.endLine==pos.line)=true:=beq_iff_eq.mpr (zzh h4)
 unfold methodCall
 rw [hf]
 unfold methodCallPos
 rw [he]
 try rfl
theorem An9 {v:Expr} {nm:Str} {pos:Pos} (h:Ald v=true):∀ env,eval (.Attribute v nm pos) env=(do
   let o<-eval v env
   standAt pos.atName
   let r<-holding [o] (getAttr o nm true)
   letTemporaryGo v o r
   pure r):=by
 intro env
 show (attributeBase v nm env (eval v env) >>= _)=_
 rw [Afi h]
 try rfl
end
section
structure Sc where
 ks:List (Str×NameKind)
 xs:List Str
def OKE (n:Nat) (ck:Sc->Expr->Bool) (f:EF):Prop:=∀ B d,Xt B.K->n≤d->∀ s e,ck s e=true->SE B d s.ks s.xs e f
def OKL (n:Nat) (ck:Sc->List Expr->Bool) (f:LF):Prop:=∀ B d,Xt B.K->n≤d->∀ s e,ck s e=true->SEL B d s.ks s.xs e f
def OKT (n:Nat) (ck:Sc->Expr->Bool) (f:Wm):Prop:=∀ B d,Xt B.K->n≤d->∀ s e,ck s e=true->ST B d s.ks s.xs e f
def OO:Bool->Env->Addr->Prop
 | true=>Ck
 | false=>Mr
def OKG (n:Nat) (ck:Bool->Sc->Expr->Bool) (f:TF):Prop:=∀ B d,Xt B.K->n≤d->∀ b s e,ck b s e=true->SA (OO b) B d s.ks s.xs e f
def OKH (n:Nat) (ck:Bool->Sc->List Expr->Bool) (f:TL):Prop:=∀ B d,Xt B.K->n≤d->∀ b s e,ck b s e=true->SAL (OO b) B d s.ks s.xs e f
def OKI (n:Nat) (ck:Sc->Expr->Expr->Bool) (f:IF):Prop:=∀ B d,Xt B.K->n≤d->∀ s t e,ck s t e=true->SI B d s.ks s.xs t e f
def OKS (n:Nat) (ck:Sc->Stmt->Bool) (f:C0):Prop:=∀ B d,Xt B.K->n≤d->∀ s e,ck s e=true->SS B d s.ks s.xs e f
def OKB (n:Nat) (ck:Sc->List Stmt->Bool) (f:C0):Prop:=∀ B d,Xt B.K->n≤d->∀ s e,ck s e=true->SSs B d s.ks s.xs e f
structure CE where
 f:EF
 n:Nat
 ck:Sc->Expr->Bool
 ok:OKE n ck f
structure CL where
 f:LF
 n:Nat
 ck:Sc->List Expr->Bool
 ok:OKL n ck f
structure CT where
 f:Wm
 n:Nat
 ck:Sc->Expr->Bool
 ok:OKT n ck f
structure CG where
 f:TF
 n:Nat
 ck:Bool->Sc->Expr->Bool
 ok:OKG n ck f
structure CH where
 f:TL
 k:Nat
 n:Nat
 ck:Bool->Sc->List Expr->Bool
 ok:OKH n ck f
structure CI where
 f:IF
 n:Nat
 ck:Sc->Expr->Expr->Bool
 ok:OKI n ck f
structure CS where
 f:C0
 n:Nat
 ck:Sc->Stmt->Bool
 ok:OKS n ck f
structure Np where
 f:C0
 n:Nat
 ck:Sc->List Stmt->Bool
 ok:OKB n ck f
structure Bh (a k:Nat) where
 F:Fn
 n:Nat
 ok:∀ B,Xt B.K->SFc B n a k F
theorem OO.like:∀ b,Fi (OO b)
 | true=>olE
 | false=>olL
theorem m1 {a b d:Nat} (h:Nat.max a b≤d):a≤d:=Nat.le_trans (Nat.le_max_left a b) h
theorem Dp {a b d:Nat} (h:Nat.max a b≤d):b≤d:=Nat.le_trans (Nat.le_max_right a b) h
def dbg (x:Str):Bool:=x==("__debug__":Str)
def isG (s:Sc) (x:Str):Bool:=s.ks.lookup x==some .globalImplicit&&(dbg x==false)
theorem Aim {s:Sc} {x:Str} (h:isG s x=true):s.ks.lookup x=some .globalImplicit/\(x==("__debug__":Str))=false:=⟨eq_of_beq (ba h).1,eq_of_beq (ba h).2⟩
def isK (s:Sc) (i:Nat) (x:Str) (k:NameKind):Bool:=s.xs[i]?==some x&&s.ks.lookup x==some k
theorem D2 {s:Sc} {i:Nat} {x:Str} {k:NameKind} (h:isK s i x k=true):s.xs[i]?=some x/\s.ks.lookup x=some k:=⟨eq_of_beq (ba h).1,eq_of_beq (ba h).2⟩
section
variable {B:Aq} {d t:Nat} {ks:List (Str×NameKind)} {xs:List Str} {k:Fl->Bool} {e:Expr}
theorem eE {f:EF} (h:wE t e k=true) (H:∀ F,k F=true->SE B d ks xs (mk F t) f):SE B d ks xs e f:=vE (P:=λ e=>SE B d ks xs e f) h H
theorem eT {f:Wm} (h:wE t e k=true) (H:∀ F,k F=true->ST B d ks xs (mk F t) f):ST B d ks xs e f:=vE (P:=λ e=>ST B d ks xs e f) h H
theorem eG {O:Env->Addr->Prop} {f:TF} (h:wE t e k=true) (H:∀ F,k F=true->SA O B d ks xs (mk F t) f):SA O B d ks xs e f:=vE (P:=λ e=>SA O B d ks xs e f) h H
end
def Aa (i:Nat):CE:=⟨Asa i,0,λ s e=>wE 1 e λ F=>(dbg F.x==false)&&(isK s i F.x .local||isK s i F.x .cell||(isK s i F.x .free&&(F.x==("__classdict__":Str))==false)),λ B d hK hd s e h=>eE h λ F h=>by
 obtain ⟨h1,h⟩:=ba h
 have h1:(F.x==("__debug__":Str))=false:=eq_of_beq h1
 rcases Bool.or_eq_true_iff.mp h with h|h
 ·rcases Bool.or_eq_true_iff.mp h with h|h
  ·exact Azq (D2 h).1 (D2 h).2 h1
  ·exact At7 (D2 h).1 (D2 h).2 h1
 ·obtain ⟨h,h3⟩:=ba h
  exact Aub (D2 h).1 (D2 h).2 h1 (eq_of_beq h3)⟩
def Al (i:Int):CE:=⟨eC (.int i),0,λ s e=>wE 2 e λ F=>decide (F.c=.int i),λ B d hK hd s e h=>eE h λ F h=>by
 show SE B d _ _ (.Constant F.c F.n F.p) _
 rw [of_decide_eq_true h];exact Azp⟩
def Pj:CE:=⟨eC .none,0,λ s e=>wE 2 e λ F=>decide (F.c=.none),λ B d hK hd s e h=>eE h λ F h=>by
 show SE B d _ _ (.Constant F.c F.n F.p) _
 rw [of_decide_eq_true h];exact Auj⟩
def Dm (b:Bool):CE:=⟨eC (.bool b),0,λ s e=>wE 2 e λ F=>decide (F.c=.bool b),λ B d hK hd s e h=>eE h λ F h=>by
 show SE B d _ _ (.Constant F.c F.n F.p) _
 rw [of_decide_eq_true h];exact At4⟩
def Ac (l:Nat):CE:=⟨eC (.str l),0,λ s e=>wE 2 e λ F=>decide (F.c=.str ⟨(Ba l).toArray⟩),λ B d hK hd s e h=>eE h λ F h=>by
 show SE B d _ _ (.Constant F.c F.n F.p) _
 rw [of_decide_eq_true h];exact Azu rfl⟩
def Bb (kn:List Nat):CE:=⟨eC (.tup (stL kn)),0,λ s e=>wE 1 e λ F=>isG s F.x&&onB (tT'.lookup F.x) λ y=>y.2==kn,λ B d hK hd s e h=>eE h λ F h=>by
 cases hl:tT'.lookup F.x with
 | none=>rw [hl] at h;exact absurd (ba h).2 Bool.false_ne_true
 | some y=>
  rw [hl] at h
  obtain ⟨g1,vs,n,osl,g2,g3⟩:=hK.tup.lk hl
  rw [<- eq_of_beq (ba h).2]
  exact Aue g1 g2 g3 (Aim (ba h).1).1 (Aim (ba h).1).2⟩
def kGi:CE:=⟨eC (.int 10000),0,λ s e=>wE 1 e λ F=>isG s F.x&&(F.x==("MOST_SIZE":Str)),λ B d hK hd s e h=>eE h λ F h=>by
 obtain ⟨h1,h⟩:=ba h
 obtain ⟨t,g⟩:=hK.int
 show SE B d _ _ (.Name F.x F.p) _
 rw [eq_of_beq h] at h1 ⊢
 exact Aud g (Aim h1).1 (Aim h1).2⟩
def Av5:CE:=⟨Avt,0,λ Z Z=>true,λ B d hK hd s e h=>Aua⟩
def kN:CL:=⟨Asy,0,λ Z es=>es.isEmpty,λ B d hK hd s es h=>by
 cases es with
 | nil=>exact Aum
 | cons a r=>cases h⟩
def kC (a:CE) (l:CL):CL:=⟨Af9 a.f l.f,Nat.max a.n l.n,λ s es=>match es with
  | e::r=>Qs e&&(a.ck s e&&l.ck s r)
  | []=>false,λ B d hK hd s es h=>by
 cases es with
 | nil=>cases h
 | cons e r=>exact Aqt (a.ok B d hK (m1 hd) s e (ba (ba h).2).1) (l.ok B d hK (Dp hd) s r (ba (ba h).2).2) (Yq (ba h).1 r)⟩
def Ad (l:CL):CE:=⟨A1g l.f,l.n,λ s e=>wE 3 e λ F=>An F.es&&l.ck s F.es,λ B d hK hd s e h=>eE h λ F h=>Azw (l.ok B d hK hd s _ (ba h).2) (Ap (ba h).1)⟩
def Fk (l:CL):CE:=⟨A1d l.f,l.n,λ s e=>wE 4 e λ F=>An F.es&&l.ck s F.es,λ B d hK hd s e h=>eE h λ F h=>Azr (l.ok B d hK hd s _ (ba h).2) (Ap (ba h).1)⟩
def Cf (l:CL):CE:=⟨Avv l.f,l.n,λ s e=>wE 4 e λ F=>An F.es&&l.ck s F.es,λ B d hK hd s e h=>eE h λ F h=>Auf (l.ok B d hK hd s _ (ba h).2) (Ap (ba h).1)⟩
def Ak (a b:CE):CE:=⟨A1f a.f b.f,Nat.max a.n b.n,λ s e=>wE 6 e λ F=>Tx F.e2&&(a.ck s F.e1&&b.ck s F.e2),λ B d hK hd s e h=>eE h λ F h=>Azv (a.ok B d hK (m1 hd) s _ (ba (ba h).2).1) (b.ok B d hK (Dp hd) s _ (ba (ba h).2).2) (Az2 (ba h).1)⟩
def Dn (a b:CE):CE:=⟨Avu a.f b.f,Nat.max a.n b.n,λ s e=>wE 6 e λ F=>wE 20 F.e2 λ G=>a.ck s F.e1&&b.ck s G.e1,λ B d hK hd s e h=>eE h λ F h=>vE (P:=λ y=>SE B d _ _ (.Subscript F.e1 y F.p) _) h λ G h=>Auc (a.ok B d hK (m1 hd) s _ (ba h).1) (b.ok B d hK (Dp hd) s _ (ba h).2)⟩
def Af5 (a b:CE):CE:=⟨Avz a.f b.f,Nat.max a.n b.n,λ s e=>wE 6 e λ F=>wE 19 F.e2 λ G=>a.ck s F.e1&&b.ck s G.e1,λ B d hK hd s e h=>eE h λ F h=>vE (P:=λ y=>SE B d _ _ (.Subscript F.e1 y F.p) _) h λ G h=>Auk (a.ok B d hK (m1 hd) s _ (ba h).1) (b.ok B d hK (Dp hd) s _ (ba h).2)⟩
def Af (x:Nat) (a:CE):CE:=⟨Avq x a.f,a.n,λ s e=>wE 7 e λ F=>(F.x.cps.toList==Ba x)&&((aT.lookup F.x==some x)&&(Ald F.e1&&a.ck s F.e1)),λ B d hK hd s e h=>eE h λ F h=>
 At3 (eq_of_beq (ba h).1) (hK.at_.lk (eq_of_beq (ba (ba h).2).1)) (a.ok B d hK hd s _ (ba (ba (ba h).2).2).2) (An9 (ba (ba (ba h).2).2).1)⟩
end
section
def Ain (op:Operator) {o:BO} (ho:∀ B,SB B op o) (a b:CE):CE:=⟨A1b o a.f b.f,Nat.max a.n b.n,λ s e=>wE 9 e λ F=>decide (F.o=op)&&(a.ck s F.e1&&b.ck s F.e2),λ B d hK hd s e h=>eE h λ F h=>by
 obtain ⟨h1,k⟩:=ba h
 have h1:=of_decide_eq_true h1
 subst h1
 exact Azm (ho B) (a.ok B d hK (m1 hd) s _ (ba k).1) (b.ok B d hK (Dp hd) s _ (ba k).2)⟩
def Av6 (l:CL) (a:CE):CE:=⟨Avx l.f a.f,Nat.max l.n a.n,λ s e=>wE 9 e λ F=>decide (F.o=.Mult)&&wE 4 F.e1 λ G=>An G.es&&(l.ck s G.es&&a.ck s F.e2),λ B d hK hd s e h=>eE h λ F h=>by
 obtain ⟨h1,h⟩:=ba h
 show SE B d _ _ (.BinOp F.e1 F.o F.e2 F.p) _
 rw [of_decide_eq_true h1]
 exact vE (P:=λ y=>SE B d _ _ (.BinOp y .Mult F.e2 F.p) _) h λ G h=>Auh (l.ok B d hK (m1 hd) s _ (ba (ba h).2).1) (Ap (ba h).1) (a.ok B d hK (Dp hd) s _ (ba (ba h).2).2)⟩
def A5d (a:CE):CE:=⟨Ax1 a.f,a.n,λ s e=>wE 11 e λ F=>a.ck s F.e1,λ B d hK hd s e h=>eE h λ F h=>Azs (a.ok B d hK hd s _ h)⟩
def A08 (op:CmpOp) (a b:CE) (s:Sc) (e:Expr):Bool:=wE 12 e λ F=>decide (F.cs=[op])&&one F.es λ y=>Qs y&&(a.ck s F.e1&&b.ck s y)
def Asv (op:CmpOp) {o:CO} (ho:∀ B,SC B op o) (a b:CE):CE:=⟨A1c o a.f b.f,Nat.max a.n b.n,A08 op a b,λ B d hK hd s e h=>eE h λ F h=>by
 obtain ⟨h1,h⟩:=ba h
 show SE B d _ _ (.Compare F.e1 F.cs F.es F.p) _
 rw [of_decide_eq_true h1]
 exact Wk (P:=λ l=>SE B d _ _ (.Compare F.e1 [op] l F.p) _) h λ y h=>Azn (ho B) (a.ok B d hK (m1 hd) s _ (ba (ba h).2).1) (b.ok B d hK (Dp hd) s _ (ba (ba h).2).2) (Yp (ba h).1)⟩
def M3 (op:CmpOp) {o:CO} (ho:∀ B,SC B op o) (a b:CE):CT:=⟨A3d o a.f b.f,Nat.max a.n b.n,A08 op a b,λ B d hK hd s e h=>eT h λ F h=>by
 obtain ⟨h1,h⟩:=ba h
 show ST B d _ _ (.Compare F.e1 F.cs F.es F.p) _
 rw [of_decide_eq_true h1]
 exact Wk (P:=λ l=>ST B d _ _ (.Compare F.e1 [op] l F.p) _) h λ y h=>Az8 (ho B) (a.ok B d hK (m1 hd) s _ (ba (ba h).2).1) (b.ok B d hK (Dp hd) s _ (ba (ba h).2).2) (Yp (ba h).1)⟩
def Asu (a b:CE):CE:=⟨A1a a.f b.f,Nat.max a.n b.n,λ s e=>wE 13 e λ F=>two F.es λ x y=>a.ck s x&&b.ck s y,λ B d hK hd s e h=>eE h λ F h=>
 Ajz (P:=λ l=>SE B d _ _ (.BoolOp .And l F.p) _) h λ x y h=>Azl (a.ok B d hK (m1 hd) s _ (ba h).1) (b.ok B d hK (Dp hd) s _ (ba h).2)⟩
def kIf (t:CT) (a b:CE):CE:=⟨eIf t.f a.f b.f,Nat.max t.n (Nat.max a.n b.n),λ s e=>wE 15 e λ F=>t.ck s F.e1&&(a.ck s F.e2&&b.ck s F.e3),λ B d hK hd s e h=>eE h λ F h=>
 A20 (t.ok B d hK (m1 hd) s _ (ba h).1) (a.ok B d hK (m1 (Dp hd)) s _ (ba (ba h).2).1) (b.ok B d hK (Dp (Dp hd)) s _ (ba (ba h).2).2)⟩
def Amu (a:CE):CE:=⟨Ar9 a.f,a.n,λ s e=>wE 17 e λ F=>decide (F.i=-1)&&a.ck s F.e1,λ B d hK hd s e h=>eE h λ F h=>by
 obtain ⟨h1,h⟩:=ba h
 show SE B d _ _ (.FormattedValue F.e1 F.i none F.p) _
 rw [of_decide_eq_true h1]
 exact Azo (a.ok B d hK hd s _ h)⟩
def Abx (a b:CE):CE:=⟨Akn a.f b.f,Nat.max a.n b.n,λ s e=>wE 16 e λ F=>two F.es λ x y=>a.ck s x&&b.ck s y,λ B d hK hd s e h=>eE h λ F h=>
 Ajz (P:=λ l=>SE B d _ _ (.JoinedStr l F.p) _) h λ x y h=>At6 (a.ok B d hK (m1 hd) s _ (ba h).1) (b.ok B d hK (Dp hd) s _ (ba h).2)⟩
def V4 (a:CE):CT:=⟨tE a.f,a.n,λ s e=>Tx e&&a.ck s e,λ B d hK hd s e h=>A26 (a.ok B d hK hd s _ (ba h).2) (Atl (ba h).1)⟩
def M2 (a b:CT):CT:=⟨A3b a.f b.f,Nat.max a.n b.n,λ s e=>wE 13 e λ F=>two F.es λ x y=>a.ck s x&&b.ck s y,λ B d hK hd s e h=>eT h λ F h=>
 Ajz (P:=λ l=>ST B d _ _ (.BoolOp .And l F.p) _) h λ x y h=>Az7 (a.ok B d hK (m1 hd) s _ (ba h).1) (b.ok B d hK (Dp hd) s _ (ba h).2)⟩
def Au4 (a b:CT):CT:=⟨tOr a.f b.f,Nat.max a.n b.n,λ s e=>wE 14 e λ F=>two F.es λ x y=>a.ck s x&&b.ck s y,λ B d hK hd s e h=>eT h λ F h=>
 Ajz (P:=λ l=>ST B d _ _ (.BoolOp .Or l F.p) _) h λ x y h=>A27 (a.ok B d hK (m1 hd) s _ (ba h).1) (b.ok B d hK (Dp hd) s _ (ba h).2)⟩
def Y8 (a:CT):CT:=⟨A3f a.f,a.n,λ s e=>wE 10 e λ F=>a.ck s F.e1,λ B d hK hd s e h=>eT h λ F h=>Az9 (a.ok B d hK hd s _ h)⟩
def A3c (o1 o2:CmpOp) {c1 c2:CO} (h1:∀ B,SC B o1 c1) (h2:∀ B,SC B o2 c2) (a b c:CE):CT:=⟨Arb c1 c2 a.f b.f c.f,Nat.max a.n (Nat.max b.n c.n),λ s e=>wE 12 e λ F=>decide (F.cs=[o1,o2])&&two F.es λ y z=>Qs z&&(a.ck s F.e1&&(b.ck s y&&c.ck s z)),λ B d hK hd s e h=>eT h λ F h=>by
 obtain ⟨g,h⟩:=ba h
 show ST B d _ _ (.Compare F.e1 F.cs F.es F.p) _
 rw [of_decide_eq_true g]
 exact Ajz (P:=λ l=>ST B d _ _ (.Compare F.e1 [o1,o2] l F.p) _) h λ y z h=>Aq6 (h1 B) (h2 B) (a.ok B d hK (m1 hd) s _ (ba (ba h).2).1) (b.ok B d hK (m1 (Dp hd)) s _ (ba (ba (ba h).2).2).1) (c.ok B d hK (Dp (Dp hd)) s _ (ba (ba (ba h).2).2).2) (Yp (ba h).1)⟩
def X4 (s:Sc) (e:Expr) (k:Str->List Expr->Bool):Bool:=wE 8 e λ F=>wE 1 F.e1 λ N=>isG s N.x&&k N.x F.es
theorem vCN {B:Aq} {d:Nat} {s:Sc} {e:Expr} {f:EF} {k:Str->List Expr->Bool} (h:X4 s e k=true) (H:∀ x q es p,s.ks.lookup x=some .globalImplicit->(x==("__debug__":Str))=false->k x es=true->SE B d s.ks s.xs (.Call (.Name x q) es [] p) f):SE B d s.ks s.xs e f:=
 eE h λ F h=>vE (P:=λ y=>SE B d _ _ (.Call y F.es [] F.p) _) h λ N h=>H N.x N.p F.es F.p (Aim (ba h).1).1 (Aim (ba h).1).2 (ba h).2
theorem Av1 {K:Frag} (hK:Xt K) {a:Nat} (h:(fnT.lookup a).isSome=true):∃ oc od fd osl,K.lookup a=some ⟨oc,od,.func fd,osl⟩:=by
 cases e:fnT.lookup a with
 | none=>rw [e] at h;cases h
 | some st=>
  obtain ⟨V,oc,od,fd,osl,h1,h2,h3⟩:=hK.fn.lk e
  exact ⟨oc,od,fd,osl,h2⟩
def Ai {a k:Nat} (c:Bh a k) (l:CL):CE:=⟨Abq c.F l.f,Nat.max c.n l.n,λ s e=>X4 s e λ x es=>(gTb.lookup x==some a)&&((fnT.lookup a).isSome&&(Nat.beq es.length k&&l.ck s es)),λ B d hK hd s e h=>vCN h λ x q es p h1 h2 h=>by
 obtain ⟨h3,h⟩:=ba h
 obtain ⟨oc,od,fd,osl,hf⟩:=Av1 hK (ba h).1
 exact At5 (hK.g.lk (eq_of_beq h3)) h1 h2 hf (zzh (ba (ba h).2).1▸((c.ok B hK).mono (m1 hd)).sf) (l.ok B d hK (Dp hd) s _ (ba (ba h).2).2)⟩
def Bq (C:Nat) {a k:Nat} (c:Bh a k) (l:CL):CE:=⟨A1e C c.F l.f,Nat.max (c.n+1) l.n,λ s e=>X4 s e λ x es=>(gTb.lookup x==some C)&&(D3.contains C&&(mT.contains (C,("__init__":Str),a)&&(Nat.beq (es.length+1) k&&l.ck s es))),λ B d hK hd s e h=>vCN h λ x q es p h1 h2 h=>by
 obtain ⟨h3,h⟩:=ba h
 obtain ⟨h4,h⟩:=ba h
 obtain ⟨h5,h⟩:=ba h
 obtain ⟨i,hi⟩:=List.mem_iff_getElem?.mp (List.contains_iff_mem.mp h4)
 obtain ⟨j,hj⟩:=List.mem_iff_getElem?.mp (List.contains_iff_mem.mp h5)
 cases d with
 | zero=>exact absurd (m1 hd) (Nat.not_succ_le_zero _)
 | succ d=>exact Azt (hK.g.lk (eq_of_beq h3)) h1 h2 (List.contains_iff_mem.mp h4) (hK.made.get hi).1 (hK.made.get hi).2 (hK.m.get hj).2.1 (hK.m.get hj).2.2 (zzh (ba h).1▸(c.ok B hK).mono (Nat.le_of_succ_le_succ (m1 hd))) (l.ok B _ hK (Dp hd) s _ (ba h).2)⟩
def Av7 (C:Nat):CE:=⟨Avy C,0,λ s e=>X4 s e λ x es=>(gTb.lookup x==some C)&&(D3.contains C&&((C==755||C==783)&&es.isEmpty)),λ B d hK hd s e h=>vCN h λ x q es p h1 h2 h=>by
 obtain ⟨h3,h⟩:=ba h
 obtain ⟨h4,h⟩:=ba h
 obtain ⟨h5,h⟩:=ba h
 obtain ⟨i,hi⟩:=List.mem_iff_getElem?.mp (List.contains_iff_mem.mp h4)
 cases es with
 | cons a r=>cases h
 | nil=>
  refine Aui (hK.g.lk (eq_of_beq h3)) h1 h2 (List.contains_iff_mem.mp h4) (hK.made.get hi).1 (hK.made.get hi).2 ?_
  rcases Bool.or_eq_true_iff.mp h5 with h|h
  ·rw [eq_of_beq h];exact hK.i0.1
  ·rw [eq_of_beq h];exact hK.i0.2⟩
theorem Axq {K:Frag} (hK:Xt K) {x:Str} (h:bT.contains x=true):nsIn K mainGlobals x=some none:=by
 obtain ⟨i,hi⟩:=List.mem_iff_getElem?.mp (List.contains_iff_mem.mp h)
 exact hK.b.get hi
def BB (x:Str) (v:Value):Prop:=bootBuiltins x=some v/\(x==("__debug__":Str))=false/\x≠"__name__"
def isB (y x:Str):Bool:=y==x&&bT.contains y
def kBi (y:Str) {id:String} {F:Fn} (hb:BB y (.builtin id)) (hF:∀ B,SBi B id F) (l:CL):CE:=⟨Abq F l.f,l.n,λ s e=>X4 s e λ x es=>isB y x&&l.ck s es,λ B d hK hd s e h=>vCN h λ x q es p h1 h2 h=>by
 obtain ⟨g,k⟩:=ba h
 obtain ⟨g1,g2⟩:=ba g
 have g1:=eq_of_beq g1
 subst g1
 exact A2y (Axq hK g2) h1 h2 hb.1 hb.2.2 (hF B) (l.ok B d hK hd s _ k)⟩
def kTy (y:Str) {T:String} {F:Fn} (hb:BB y (.type T)) (hF:∀ B,SBt B T F) (l:CL):CE:=⟨Abq F l.f,l.n,λ s e=>X4 s e λ x es=>isB y x&&l.ck s es,λ B d hK hd s e h=>vCN h λ x q es p h1 h2 h=>by
 obtain ⟨g,k⟩:=ba h
 obtain ⟨g1,g2⟩:=ba g
 have g1:=eq_of_beq g1
 subst g1
 exact A21 (Axq hK g2) h1 h2 hb.1 hb.2.2 (hF B) (l.ok B d hK hd s _ k)⟩
def Afk (e:Expr) (k:Expr->Str->Pos->List Expr->Pos->Bool):Bool:=wE 8 e λ F=>wE 7 F.e1 λ N=>k N.e1 N.x N.p F.es F.p
theorem vCA {P:Expr->Prop} {e:Expr} {k:Expr->Str->Pos->List Expr->Pos->Bool} (h:Afk e k=true) (H:∀ v x q es p,k v x q es p=true->P (.Call (.Attribute v x q) es [] p)):P e:=
 vE h λ F h=>vE (P:=λ y=>P (.Call y F.es [] F.p)) h λ N h=>H N.e1 N.x N.p F.es F.p h
def kBm {c:KT} {T:String} (hc:∀ B,Any B c T) (nm:Str) {id:String} {F:Fn} (pa:PlainAttrs T) (slot:Slot T nm id) (hty:typeOf (.builtin id)=pure (.type "method_descriptor")) (hF:∀ B,SBi B id F) (a:CE) (l:CL):CE:=
 ⟨eBM c F a.f l.f,Nat.max a.n l.n,λ s e=>Afk e λ v x q es p=>nm==x&&(Yn v q p es&&(a.ck s v&&l.ck s es)),λ B d hK hd s e h=>vCA (P:=λ e=>SE B d s.ks s.xs e _) h λ v x q es p h=>by
 obtain ⟨h1,k2⟩:=ba h
 obtain ⟨h2,k⟩:=ba k2
 have h1:=eq_of_beq h1
 subst h1
 exact A2z (hc B) pa slot hty (hF B) (a.ok B d hK (m1 hd) s _ (ba k).1) (l.ok B d hK (Dp hd) s _ (ba k).2) (So h2)⟩
structure CMt where
 f:MT
 n:Nat
 ck:Str->Nat->Bool
 ok:∀ B d nm k,Xt B.K->n≤d->ck nm k=true->Amc B d nm k f
def C9:CMt:=⟨mt0,0,λ Z Z=>true,λ B d nm k hK hd h=>Ayh⟩
def Cy (C:Nat) {a k':Nat} (c:Bh a k') (m:CMt):CMt:=⟨mtC C c.F m.f,Nat.max c.n m.n,λ nm k=>mT.contains (C,nm,a)&&((fnT.lookup a).isSome&&(Nat.beq k k'&&m.ck nm k)),λ B d nm k hK hd h=>by
 obtain ⟨h1,h⟩:=ba h
 obtain ⟨j,hj⟩:=List.mem_iff_getElem?.mp (List.contains_iff_mem.mp h1)
 obtain ⟨oc,od,fd,osl,hf⟩:=Av1 hK (ba h).1
 have:=hK.m.get hj
 exact Ayj this.1 this.2.1 this.2.2 hf (zzh (ba (ba h).2).1▸((c.ok B hK).mono (m1 hd)).sf) (m.ok B d nm k hK (Dp hd) (ba (ba h).2).2)⟩
def Av (r:Bool) (x:Nat) (m:CMt) (a:CE) (l:CL):CE:=⟨Avw r x m.f a.f l.f,Nat.max m.n (Nat.max a.n l.n),λ s e=>Afk e λ v nm q es p=>(nm.cps.toList==Ba x)&&((r||!Ah5.contains x)&&(m.ck nm (es.length+1)&&(Yn v q p es&&(a.ck s v&&l.ck s es)))),λ B d hK hd s e h=>vCA (P:=λ e=>SE B d s.ks s.xs e _) h λ v nm q es p h=>by
 obtain ⟨h0,h⟩:=ba h
 obtain ⟨hr,h⟩:=ba h
 obtain ⟨h1,h⟩:=ba h
 obtain ⟨h2,h⟩:=ba h
 exact Aug (eq_of_beq h0) (m.ok B d nm _ hK (m1 hd) h1) ((Bool.or_eq_true_iff.mp hr).imp id λ h q=>by rw [List.contains_iff_mem.mpr q] at h;exact ff h) (a.ok B d hK (m1 (Dp hd)) s _ (ba h).1) (l.ok B d hK (Dp (Dp hd)) s _ (ba h).2) (So h2)⟩
end
section
theorem Alu {e:Expr} (h:Qs e=true):∀ env,starEach [e] env=[(false,eval e env)]:=λ env=>Yq h [] env
def Rx (s:Sc) (y:Str) (e:Expr) (k:List Expr->Bool):Bool:=X4 s e λ x es=>isB y x&&k es
theorem vCB {B:Aq} {s:Sc} {y:Str} {e:Expr} {P:Expr->Prop} {k:List Expr->Bool} (h:Rx s y e k=true) (hK:Xt B.K) (H:∀ q es p,nsIn B.K mainGlobals y=some none->s.ks.lookup y=some .globalImplicit->k es=true->P (.Call (.Name y q) es [] p)):P e:=
 vE (t:=8) (k:=λ F=>wE 1 F.e1 λ N=>isG s N.x&&(isB y N.x&&k F.es)) h λ F h=>vE (P:=λ y=>P (.Call y F.es [] F.p)) h λ N h=>by
  obtain ⟨h1,h⟩:=ba h
  obtain ⟨h2,h⟩:=ba h
  obtain ⟨g1,g2⟩:=ba h2
  have g1:=eq_of_beq g1
  show P (.Call (.Name N.x N.p) F.es [] F.p)
  rw [<- g1] at h1 ⊢
  exact H N.p F.es F.p (Axq hK g2) (Aim h1).1 h
def Aqv (a:CE) (s:Sc) (e:Expr):Bool:=Rx s "set" e λ es=>one es λ y=>Qs y&&a.ck s y
theorem Aqz {B:Aq} {d:Nat} {s:Sc} {e:Expr} (a:CE) (hK:Xt B.K) (hd:a.n≤d) (h:Aqv a s e=true):SX B d s.ks s.xs e (Mg a.f) (T0 B.w):=
 vCB (P:=λ e=>SX B d s.ks s.xs e (Mg a.f) (T0 B.w)) h hK λ q es p h1 h2 h=>
  Wk (P:=λ l=>SX B d s.ks s.xs (.Call (.Name "set" q) l [] p) (Mg a.f) (T0 B.w)) h λ y h=>A0b h1 h2 Ah7.2.1 Ah7.1 Ah7.2.2 (a.ok B d hK hd s y (ba h).2) (Alu (ba h).1)
def Si (a:CE):CE:=⟨Mh a.f,a.n,λ s e=>Rx s "sorted" e λ es=>one es λ y=>Qs y&&Aqv a s y,λ B d hK hd s e h=>
 vCB (P:=λ e=>SE B d s.ks s.xs e _) h hK λ q es p h1 h2 h=>Wk (P:=λ l=>SE B d s.ks s.xs (.Call (.Name "sorted" q) l [] p) _) h λ y h=>Ajj h1 h2 D6.2.1 D6.1 D6.2.2 (Aqz a hK hd (ba h).2) (Alu (ba h).1)⟩
def Asx (a:CE):CE:=⟨Akp a.f,a.n,λ s e=>Rx s "len" e λ es=>one es λ y=>Qs y&&Aqv a s y,λ B d hK hd s e h=>
 vCB (P:=λ e=>SE B d s.ks s.xs e _) h hK λ q es p h1 h2 h=>Wk (P:=λ l=>SE B d s.ks s.xs (.Call (.Name "len" q) l [] p) _) h λ y h=>Anl h1 h2 Ac7.2.1 Ac7.1 Ac7.2.2 (Aqz a hK hd (ba h).2) (Alu (ba h).1)⟩
def itC (a:CE) (s:Sc) (y:Expr):Bool:=Qs y&&Afk y λ v x q es p=>x==("items":Str)&&(es.isEmpty&&(Yn v q p []&&a.ck s v))
theorem Av3 {P:Expr->Prop} {B:Aq} {d:Nat} {s:Sc} {y:Expr} (a:CE) (hK:Xt B.K) (hd:a.n≤d) (h:itC a s y=true) (H:∀ v q p,SX B d s.ks s.xs (.Call (.Attribute v "items" q) [] [] p) (Tn a.f) Sv->P (.Call (.Attribute v "items" q) [] [] p)):P y:=
 vCA (P:=P) (ba h).2 λ v x q es p h=>by
  obtain ⟨h1,h⟩:=ba h
  obtain ⟨h2,k⟩:=ba h
  rw [eq_of_beq h1]
  cases es with
  | cons a r=>cases h2
  | nil=>exact H v q p (Ara (a.ok B d hK hd s v (ba k).2) (So (ba k).1))
def A5c (a:CE):CE:=⟨Adi a.f,a.n,λ s e=>Rx s "sorted" e λ es=>one es λ y=>itC a s y,λ B d hK hd s e h=>
 vCB (P:=λ e=>SE B d s.ks s.xs e _) h hK λ q es p h1 h2 h=>Wk (P:=λ l=>SE B d s.ks s.xs (.Call (.Name "sorted" q) l [] p) _) h λ y h=>Av3 (P:=λ y=>SE B d s.ks s.xs (.Call (.Name "sorted" q) [y] [] p) _) a hK hd h λ v q' p' X=>Ank h1 h2 D6.2.1 D6.1 D6.2.2 X λ Z=>rfl⟩
def A5b (a:CE):CE:=⟨Adh a.f,a.n,λ s e=>Rx s "list" e λ es=>one es λ y=>itC a s y,λ B d hK hd s e h=>
 vCB (P:=λ e=>SE B d s.ks s.xs e _) h hK λ q es p h1 h2 h=>Wk (P:=λ l=>SE B d s.ks s.xs (.Call (.Name "list" q) l [] p) _) h λ y h=>Av3 (P:=λ y=>SE B d s.ks s.xs (.Call (.Name "list" q) [y] [] p) _) a hK hd h λ v q' p' X=>Anj h1 h2 Wn.2.1 Wn.1 Wn.2.2 X λ Z=>rfl⟩
def A1v (v:CE) (l:CL):CE:=⟨Avs v.f l.f,Nat.max v.n l.n,λ s e=>Afk e λ u x q es p=>x==("extend":Str)&&(v.ck s u&&(Yn u q p es&&one es λ z=>Qs z&&Rx s "zip" z λ es=>l.ck s es)),λ B d hK hd s e h=>
 vCA (P:=λ e=>SE B d s.ks s.xs e _) h λ u x q es p h=>by
  obtain ⟨h1,h⟩:=ba h
  obtain ⟨h2,h⟩:=ba h
  obtain ⟨h3,h⟩:=ba h
  rw [eq_of_beq h1]
  revert h3
  refine Wk (P:=λ es=>Yn u q p es=true->SE B d s.ks s.xs (.Call (.Attribute u "extend" q) es [] p) _) h λ z h=>?_
  obtain ⟨h4,h⟩:=ba h
  revert h4
  exact vCB (P:=λ z=>Qs z=true->Yn u q p [z]=true->SE B d s.ks s.xs (.Call (.Attribute u "extend" q) [z] [] p) _) h hK λ q' es' p' g1 g2 h h4 h3=>
   Aji PySem.F.plainAttrs_list PySem.F.slot_list_extend rfl g1 g2 Tj.2.1 Tj.1 Tj.2.2 (l.ok B d hK (Dp hd) s es' h) (v.ok B d hK (m1 hd) s u h2) (Alu h4) (So h3)⟩
structure CV where
 f:LF
 kn:List Nat
 n:Nat
 ck:Sc->List (Option Expr)->List Expr->Bool
 ok:∀ B d,Xt B.K->n≤d->∀ s ks es,ck s ks es=true->SEV B d s.ks s.xs ks es kn f
def kV0:CV:=⟨Asy,[],0,λ Z ks es=>ks.isEmpty&&es.isEmpty,λ B d hK hd s ks es h=>by
 cases ks with
 | cons a r=>cases h
 | nil=>cases es with
  | cons a r=>cases h
  | nil=>exact Auq⟩
def kVc (k:Nat) (a:CE) (r:CV):CV:=⟨Af9 a.f r.f,k::r.kn,Nat.max a.n r.n,λ s ks es=>match ks,es with
  | some y::ks,e::es=>(wE 2 y λ F=>decide (F.c=.str ⟨(Ba k).toArray⟩))&&(a.ck s e&&r.ck s ks es)
  | _,_=>false,λ B d hK hd s ks es h=>by
 match ks,es,h with
 | some y::ks,e::es,h=>
  obtain ⟨h1,h⟩:=ba h
  refine vE (P:=λ y=>SEV B d s.ks s.xs (some y::ks) (e::es) (k::r.kn) (Af9 a.f r.f)) h1 λ F h1=>?_
  show SEV B d _ _ (some (.Constant F.c F.n F.p)::ks) _ _ _
  rw [of_decide_eq_true h1]
  exact Aq0 rfl (a.ok B d hK (m1 hd) s e (ba h).1) (r.ok B d hK (Dp hd) s ks es (ba h).2)
 | [],_,h=>cases h
 | none::_,_,h=>cases h
 | some _::_,[],h=>cases h⟩
def Aph (v:CV):CE:=⟨Avr v.kn v.f,v.n,λ s e=>wE 5 e λ F=>(!(v.kn.isEmpty)&&Nat.ble v.kn.length 15)&&v.ck s F.ks F.es,λ B d hK hd s e h=>eE h λ F h=>At9 (v.ok B d hK hd s _ _ (ba h).2) (λ e=>by rw [e] at h;exact absurd (ba (ba h).1).1 Bool.false_ne_true) (Nat.le_of_ble_eq_true (ba (ba h).1).2)⟩
def C7:CE:=⟨Aor,0,λ s e=>wE 5 e λ F=>F.ks.isEmpty&&F.es.isEmpty,λ B d hK hd s e h=>eE h λ F h=>by
 show SE B d _ _ (.Dict F.ks F.es F.p) _
 rw [List.isEmpty_iff.mp (ba h).1,List.isEmpty_iff.mp (ba h).2]
 exact Aqs⟩
def gN (i:Nat):CG:=⟨tN i,0,λ b s e=>wE 1 e λ F=>isK s i F.x .local||(b&&isK s i F.x .cell),λ B d hK hd b s e h=>eG h λ F h=>by
 rcases Bool.or_eq_true_iff.mp h with h|h
 ·exact Aqj (OO.like b) (D2 h).1 (D2 h).2
 ·obtain ⟨h1,h⟩:=ba h
  subst h1
  exact Ats (D2 h).1 (D2 h).2⟩
def Lp:CH:=⟨A3e,0,0,λ Z Z es=>es.isEmpty,λ B d hK hd b s es h=>by
 cases es with
 | nil=>exact Att (OO.like b)
 | cons a r=>cases h⟩
def Cm (g:CG) (r:CH):CH:=⟨Awz g.f r.f,Nat.succ r.k,Nat.max g.n r.n,λ b s es=>match es with
  | e::l=>Qs e&&(g.ck b s e&&r.ck b s l)
  | []=>false,λ B d hK hd b s es h=>by
 cases es with
 | nil=>cases h
 | cons e l=>exact Aqk (OO.like b) (g.ok B d hK (m1 hd) b s e (ba (ba h).2).1) (r.ok B d hK (Dp hd) b s l (ba (ba h).2).2) (Ata (ba h).1 l)⟩
def Lq (r:CH):CG:=⟨tT r.k r.f,r.n,λ b s e=>wE 3 e λ F=>Nat.beq F.es.length r.k&&r.ck b s F.es,λ B d hK hd b s e h=>eG h λ F h=>zzh (ba h).1▸Azf (OO.like b) (r.ok B d hK hd b s _ (ba h).2)⟩
def gS (a c:CE):CG:=⟨tS a.f c.f,Nat.max a.n c.n,λ b s e=>wE 6 e λ F=>Tx F.e2&&(a.ck s F.e1&&c.ck s F.e2),λ B d hK hd b s e h=>eG h λ F h=>Aze (OO.like b) (a.ok B d hK (m1 hd) s _ (ba (ba h).2).1) (c.ok B d hK (Dp hd) s _ (ba (ba h).2).2) (Az1 (ba h).1)⟩
def iK (a:CE):CI:=⟨iE a.f,a.n,λ s t e=>a.ck s e,λ B d hK hd s t e h=>A56 (a.ok B d hK hd s e h)⟩
def iEn (l:CL):CI:=⟨Af2 l.f,l.n,λ s t e=>(wE 3 t λ Z=>true)&&Rx s "enumerate" e λ es=>l.ck s es,λ B d hK hd s t e h=>by
 obtain ⟨h1,h⟩:=ba h
 refine vE (P:=λ t=>SI B d s.ks s.xs t e (Af2 l.f)) h1 λ F Z=>?_
 exact vCB (P:=λ e=>SI B d s.ks s.xs (mk F 3) e (Af2 l.f)) h hK λ q es p g1 g2 h=>Aus (l.ok B d hK hd s es h) g1 g2 H6.2.1 H6.1 H6.2.2⟩
def iZi (l:CL):CI:=⟨Ams l.f,l.n,λ s t e=>(wE 3 t λ Z=>true)&&Rx s "zip" e λ es=>l.ck s es,λ B d hK hd s t e h=>by
 obtain ⟨h1,h⟩:=ba h
 refine vE (P:=λ t=>SI B d s.ks s.xs t e (Ams l.f)) h1 λ F Z=>?_
 exact vCB (P:=λ e=>SI B d s.ks s.xs (mk F 3) e (Ams l.f)) h hK λ q es p g1 g2 h=>Az0 (l.ok B d hK hd s es h) g1 g2 Tj.2.1 Tj.1 Tj.2.2⟩
end
section
theorem Au8 {α:Type} {l:List α} {k:α->Bool} (h:one l k=true):∃ a,l=[a]/\k a=true:=Wk (P:=λ l=>∃ a,l=[a]/\k a=true) h λ a h=>⟨a,rfl,h⟩
theorem Afp {c:Comprehension} {l:List Expr} (h1:c.ifs=l) (h2:c.is_async=0):c=⟨c.target,c.iter,l,0⟩:=by
 cases c;cases h1;cases h2;rfl
def Ayk (e:Expr):List Str:=match fl e with
 | some F=>[F.1.x]
 | none=>[]
def tn (e:Expr):List Str:=match fl e with
 | some F=>match F.1.es with
  | []=>[F.1.x]
  | es=>es.flatMap Ayk
 | none=>[]
def Sc.inner (s:Sc) (ts:List Str) (js:List Nat) (sc:Scope):Sc:=⟨Sw s.ks sc.names,ts++js.filterMap (s.xs[·]?)⟩
def Lr (B:Aq) (d:Nat) (s:Sc) (e:Expr) (m:Nat) (js:List Nat) (fi:IF) (t:TF) (g:CF):Prop:=
 ∃ elt tg iter ifs rest scope cpos p turn xs',e=.ListComp elt (⟨tg,iter,ifs,0⟩::rest) scope cpos/\SI B d s.ks s.xs tg iter fi/\Gv e 0 tg p turn/\SA Mr B d (Sw s.ks scope.names) xs' tg t/\CB B d (Sw s.ks scope.names) xs' turn g/\P4 s.ks (Sw s.ks scope.names) s.xs xs' scope m js/\∀ (env:Env) x,foldedSetIterable iter env x=pure x
structure CC where
 m:Nat
 js:List Nat
 fi:IF
 t:TF
 g:CF
 n:Nat
 ck:Sc->Expr->Bool
 ok:∀ B d,Xt B.K->n≤d->∀ s e,ck s e=true->Lr B d s e m js fi t g
def g1C (s:Sc) (m:Nat) (js:List Nat) (it:CI) (t:CG) (c:Comprehension) (ts:List Str) (sc:Scope) (k:Sc->Bool):Bool:=decide (c.is_async=0)&&(Qs c.iter&&(it.ck s c.target c.iter&&(t.ck false (s.inner ts js sc) c.target&&(Aoj s.ks s.xs (s.inner ts js sc).xs sc m js&&k (s.inner ts js sc)))))
theorem g1_ {B:Aq} {d:Nat} {s:Sc} {m:Nat} {js:List Nat} {it:CI} {t:CG} {c:Comprehension} {ts:List Str} {sc:Scope} {k:Sc->Bool} {elt:Expr} {ifs:List Expr} {rest:List Comprehension} {p:Pos} {turn:Value->Env->Sem Fin->Sem Fin} {g:CF} (h:g1C s m js it t c ts sc k=true) (hi:c.ifs=ifs) (hK:Xt B.K) (h1:it.n≤d) (h2:t.n≤d)
  (hT:Gv (.ListComp elt (⟨c.target,c.iter,ifs,0⟩::rest) sc p) 0 c.target c.iter.pos turn) (H:k (s.inner ts js sc)=true->CB B d (Sw s.ks sc.names) (s.inner ts js sc).xs turn g):Lr B d s (.ListComp elt (c::rest) sc p) m js it.f t.f g:=by
 obtain ⟨g1,h⟩:=ba h
 obtain ⟨g2,h⟩:=ba h
 obtain ⟨g3,h⟩:=ba h
 obtain ⟨g4,h⟩:=ba h
 obtain ⟨g5,h⟩:=ba h
 rw [Afp hi (of_decide_eq_true g1)]
 exact ⟨elt,_,_,ifs,rest,sc,p,_,turn,_,rfl,it.ok B d hK h1 s _ _ g3,hT,t.ok B d hK h2 false _ _ g4,H h,Ami g5,Yo g2⟩
def Wp (m:Nat) (js:List Nat) (it:CI) (t:CG) (a:CE):CC:=⟨m,js,it.f,t.f,Be a.f,Nat.max it.n (Nat.max t.n a.n),λ s e=>wE 18 e λ F=>one F.g λ c=>c.ifs.isEmpty&&g1C s m js it t c (tn c.target) F.sc λ s'=>a.ck s' F.e1,λ B d hK hd s e h=>
 vE (P:=λ e=>Lr B d s e m js it.f t.f (Be a.f)) h λ F h=>Wk (P:=λ g=>Lr B d s (.ListComp F.e1 g F.sc F.p) m js it.f t.f (Be a.f)) h λ c h=>
  g1_ (ba h).2 (List.isEmpty_iff.mp (ba h).1) hK (m1 hd) (m1 (Dp hd)) (ct1 _ _ _ _ _) λ h=>Ac9 (a.ok B d hK (Dp (Dp hd)) _ _ h)⟩
def cc2 (m:Nat) (js:List Nat) (it:CI) (t:CG) (q:CT) (a:CE):CC:=⟨m,js,it.f,t.f,cIf q.f (Be a.f),Nat.max it.n (Nat.max t.n (Nat.max q.n a.n)),λ s e=>wE 18 e λ F=>one F.g λ c=>one c.ifs λ z=>g1C s m js it t c (tn c.target) F.sc λ s'=>q.ck s' z&&a.ck s' F.e1,λ B d hK hd s e h=>
 vE (P:=λ e=>Lr B d s e m js it.f t.f (cIf q.f (Be a.f))) h λ F h=>Wk (P:=λ g=>Lr B d s (.ListComp F.e1 g F.sc F.p) m js it.f t.f (cIf q.f (Be a.f))) h λ c h=>by
  obtain ⟨z,hi,h⟩:=Au8 h
  exact g1_ h hi hK (m1 hd) (m1 (Dp hd)) (ct2 _ _ _ _ _ _) λ h=>A04 (q.ok B d hK (m1 (Dp (Dp hd))) _ _ (ba h).1) (a.ok B d hK (Dp (Dp (Dp hd))) _ _ (ba h).2)⟩
def cc3 (m:Nat) (js:List Nat) (it:CI) (t:CG) (i2:CI) (t2:CG) (a:CE):CC:=⟨m,js,it.f,t.f,Tk 200 i2.f t2.f (Be a.f),Nat.max it.n (Nat.max t.n (Nat.max i2.n (Nat.max t2.n a.n))),λ s e=>wE 18 e λ F=>two F.g λ c c2=>c.ifs.isEmpty&&(c2.ifs.isEmpty&&(decide (c2.is_async=0)&&(Qs c2.iter&&g1C s m js it t c (tn c.target++tn c2.target) F.sc λ s'=>i2.ck s' c2.target c2.iter&&(t2.ck false s' c2.target&&a.ck s' F.e1)))),λ B d hK hd s e h=>
 vE (P:=λ e=>Lr B d s e m js it.f t.f (Tk 200 i2.f t2.f (Be a.f))) h λ F h=>Ajz (P:=λ g=>Lr B d s (.ListComp F.e1 g F.sc F.p) m js it.f t.f (Tk 200 i2.f t2.f (Be a.f))) h λ c c2 h=>by
  obtain ⟨h1,h⟩:=ba h
  obtain ⟨h2,h⟩:=ba h
  obtain ⟨h3,h⟩:=ba h
  rw [Afp (List.isEmpty_iff.mp h2) (of_decide_eq_true h3)]
  exact g1_ (ba h).2 (List.isEmpty_iff.mp h1) hK (m1 hd) (m1 (Dp hd)) (ct3 _ _ _ _ _ _ _) λ k=>Axx 200 (i2.ok B d hK (m1 (Dp (Dp hd))) _ _ _ (ba k).1) (t2.ok B d hK (m1 (Dp (Dp (Dp hd)))) false _ _ (ba (ba k).2).1) (a.ok B d hK (Dp (Dp (Dp (Dp hd)))) _ _ (ba (ba k).2).2) (Yo (ba h).1)⟩
def Ape {fin:Aez} (hf:Aa9 fin) (c:CC):CE:=⟨Ako fin 200 c.m c.js c.fi c.t c.g,c.n,c.ck,λ B d hK hd s e h=>by
 obtain ⟨elt,tg,iter,ifs,rest,scope,cpos,p,turn,xs',rfl,h1,h2,h3,h4,h5,h6⟩:=c.ok B d hK hd s e h
 exact At8 hf h1 h2 h3 h4 h5 h6⟩
def B9:=Ape Aks
def Tr:=Ape Asf
end
section
section
variable {B:Aq} {d t:Nat} {ks:List (Str×NameKind)} {xs:List Str} {k:Fs->Bool} {e:Stmt}
theorem eS {f:C0} (h:wS t e k=true) (H:∀ F,k F=true->SS B d ks xs (mkS F t) f):SS B d ks xs e f:=vS (P:=λ e=>SS B d ks xs e f) h H
end
def swP (ks:List (Str×NameKind)) (ts vs:List Expr):Option (Option (List Str)):=
 if (!(ts.length==2||ts.length==3)||vs.length != ts.length)=true then some none else
 if (vs.any fun|.Starred ..=>true|_=>false)=true then some none else
 if ((ts.filterMap fun
  | .Name id pos=>if (ks.lookup id==some .local&&pos.line==(ts.head?.map (·.pos.line)).getD 0)=true then some id else none
  | _=>none).length != ts.length||(ts.filterMap fun
  | .Name id pos=>if (ks.lookup id==some .local&&pos.line==(ts.head?.map (·.pos.line)).getD 0)=true then some id else none
  | _=>none).eraseDups.length != (ts.filterMap fun
  | .Name id pos=>if (ks.lookup id==some .local&&pos.line==(ts.head?.map (·.pos.line)).getD 0)=true then some id else none
  | _=>none).length)=true then some none else
 if vs.all (foldedForSure 8)=true then some none else
 if vs.all (constantsAlone 8)=true then none else some (some (ts.filterMap fun
  | .Name id pos=>if (ks.lookup id==some .local&&pos.line==(ts.head?.map (·.pos.line)).getD 0)=true then some id else none
  | _=>none))
theorem A0a {ks:List (Str×NameKind)} {ts vs:List Expr} {r:Option (List Str)} (h:swP ks ts vs=some r) {k k':Nat} {q q':Pos}:∀ env:Env,env.scope.kind=.function->env.scope.names=ks->swappedStores [.Tuple ts k q] (.Tuple vs k' q') env=pure r:=Akq λ env=>by
 unfold swP at h
 show (if (!(ts.length==2||ts.length==3)||vs.length != ts.length||false)=true then pure none else _)=_
 rw [Bool.or_false]
 split at h
 ·rename_i c
  cases h
  exact if_pos c
 ·rename_i c
  refine (if_neg c).trans ?_
  split at h
  ·rename_i c
   cases h
   exact if_pos c
  ·rename_i c
   refine (if_neg c).trans ?_
   split at h
   ·rename_i c
    cases h
    exact if_pos c
   ·rename_i c
    refine (if_neg c).trans ?_
    split at h
    ·rename_i c
     cases h
     exact if_pos c
    ·rename_i c
     refine (if_neg c).trans ?_
     split at h
     ·cases h
     ·rename_i c
      cases h
      exact if_neg c
def swV (ks:List (Str×NameKind)) (ts:List Expr) (v:Expr) (r:Option (List Str)):Bool:=(Anr [1,8] v&&decide (r=none))||wE 3 v λ F=>decide (swP ks ts F.es=some r)
theorem Ajm {ks:List (Str×NameKind)} {ts:List Expr} {v:Expr} {r:Option (List Str)} (h:swV ks ts v r=true) {k:Nat} {q:Pos}:∀ env:Env,env.scope.kind=.function->env.scope.names=ks->swappedStores [.Tuple ts k q] v env=pure r:=λ env e1 e2=>by
 rcases Bool.or_eq_true_iff.mp h with h|h
 ·rw [of_decide_eq_true (ba h).2]
  exact sh (P:=λ v=>swappedStores [.Tuple ts k q] v env=pure none) (ba h).1 λ F=>⟨rfl,rfl,trivial⟩
 ·exact vE (P:=λ v=>swappedStores [.Tuple ts k q] v env=pure r) h λ F h=>A0a (of_decide_eq_true h) env e1 e2
def A00 (s:Sc) (st:Stmt) (k:Str->Expr->Bool):Bool:=wS 6 st λ F=>wE 1 F.e1 λ N=>k N.x F.e2
theorem vAN {P:Stmt->Prop} {s:Sc} {st:Stmt} {k:Str->Expr->Bool} (h:A00 s st k=true) (H:∀ x q e p,k x e=true->P (.Assign [.Name x q] e p)):P st:=
 vS h λ F h=>vE (P:=λ y=>P (.Assign [y] F.e2 F.p)) h λ N h=>H N.x N.p F.e2 F.p h
theorem Ano {ks:List (Str×NameKind)} {e:Expr} {x:Str} {q:Pos} {n:Nat} (h:Qs e=true) (hk:ks.lookup x=some .cell):∀ env:Env,env.scope.kind=.function->env.scope.names=ks->swapsWith e (some (.Name x q)) n env=pure false:=by
 have hf:∀ (sc:Scope) (l:Bool) (env:Env),env.scope.kind=.function->env.scope.names=ks->(pure (env.blockKind==.function&&env.kindOf x==some .local&&l&&!(sc.names.any λ (n,k)=>n==x&&(k==.local||k==.cell))):Sem Bool)=pure false:=λ sc l env h1 h2=>by
  have:(env.kindOf x==some .local)=false:=by unfold Env.kindOf;rw [h2,hk];rfl
  rw [this,Bool.and_false,Bool.false_and,Bool.false_and]
 intro env h1 h2
 exact sh (P:=λ e=>swapsWith e (some (.Name x q)) n env=pure false) h λ F=>⟨rfl,rfl,rfl,rfl,rfl,rfl,rfl,rfl,rfl,rfl,rfl,rfl,rfl,rfl,rfl,rfl,rfl,hf _ _ env h1 h2,trivial⟩
def Br (i:Nat) (a:CE):CS:=⟨Aqi i a.f,a.n,λ s st=>A00 s st λ x e=>Qs e&&(a.ck s e&&(isK s i x .cell||(isK s i x .local&&Aix e))),λ B d hK hd s st h=>vAN (P:=λ st=>SS B d s.ks s.xs st _) (s:=s) h λ x q e p h=>by
 obtain ⟨h0,h⟩:=ba h
 obtain ⟨h1,h⟩:=ba h
 rcases Bool.or_eq_true_iff.mp h with h|h
 ·exact Aux (a.ok B d hK hd s e h1) (D2 h).1 (D2 h).2 (Ano h0 (D2 h).2)
 ·obtain ⟨h2,h⟩:=ba h
  exact Auz (a.ok B d hK hd s e h1) (D2 h2).1 (D2 h2).2 λ env Z Z=>Ale h env⟩
def A45 (x:Str) (q:Pos) (e:Expr):Bool:=wE 18 e λ F=>decide (q.line=F.p.line)&&!(F.sc.names.any λ (n,k)=>n==x&&(k==.local||k==.cell))
def Amv {fin:Aez} (hf:Aa9 fin) (i:Nat) (c:CC):CS:=⟨Aqi i (Ako fin 200 c.m c.js c.fi c.t c.g),c.n,λ s st=>wS 6 st λ F=>wE 1 F.e1 λ N=>c.ck s F.e2&&(isK s i N.x .local&&A45 N.x N.p F.e2),λ B d hK hd s st h=>eS h λ F h=>vE (P:=λ y=>SS B d s.ks s.xs (.Assign [y] F.e2 F.p) _) h λ N h=>by
 obtain ⟨h1,h⟩:=ba h
 obtain ⟨h2,h⟩:=ba h
 obtain ⟨elt,tg,iter,ifs,rest,scope,cpos,p,turn,xs',e,g1,g2,g3,g4,g5,g6⟩:=c.ok B d hK hd s _ h1
 rw [e] at h g2 ⊢
 have h:(decide (N.p.line=cpos.line)&&!(scope.names.any λ (n,k)=>n==N.x&&(k==.local||k==.cell)))=true:=h
 obtain ⟨h3,h4⟩:=ba h
 refine Ajl hf g1 g2 g3 g4 g5 g6 (D2 h2).1 (D2 h2).2 (Akq λ env=>?_)
 show (pure (true&&(s.ks.lookup N.x==some .local)&&(N.p.line==cpos.line)&&!(scope.names.any λ (n,k)=>n==N.x&&(k==.local||k==.cell))):Sem Bool)=pure true
 rw [(D2 h2).2,h4,of_decide_eq_true h3,Bool.and_true,beq_self_eq_true,Bool.and_true,beq_self_eq_true];rfl⟩
def Ml:=Amv Aks
def Bu (x:Nat) (a b:CE):CS:=⟨Awp x a.f b.f,Nat.max a.n b.n,λ s st=>wS 6 st λ F=>wE 7 F.e1 λ N=>(N.x.cps.toList==Ba x)&&((Ah5.contains x&&(aT.lookup N.x==some x))&&(Qs F.e2&&(a.ck s N.e1&&b.ck s F.e2))),λ B d hK hd s st h=>eS h λ F h=>vE (P:=λ y=>SS B d s.ks s.xs (.Assign [y] F.e2 F.p) _) h λ N h=>
 Auw (eq_of_beq (ba h).1) (List.contains_iff_mem.mp (ba (ba (ba h).2).1).1) (hK.at_.lk (eq_of_beq (ba (ba (ba h).2).1).2)) hK.sets (a.ok B d hK (m1 hd) s _ (ba (ba (ba (ba h).2).2).2).1) (b.ok B d hK (Dp hd) s _ (ba (ba (ba (ba h).2).2).2).2) (Aq8 (ba (ba (ba h).2).2).1)⟩
def Fe (a b c:CE):CS:=⟨Awq a.f b.f c.f,Nat.max a.n (Nat.max b.n c.n),λ s st=>wS 6 st λ F=>wE 6 F.e1 λ N=>Qs F.e2&&(a.ck s N.e1&&(b.ck s N.e2&&c.ck s F.e2)),λ B d hK hd s st h=>eS h λ F h=>vE (P:=λ y=>SS B d s.ks s.xs (.Assign [y] F.e2 F.p) _) h λ N h=>
 Auy (a.ok B d hK (m1 hd) s _ (ba (ba h).2).1) (b.ok B d hK (m1 (Dp hd)) s _ (ba (ba (ba h).2).2).1) (c.ok B d hK (Dp (Dp hd)) s _ (ba (ba (ba h).2).2).2) (Aq9 (ba h).1)⟩
def Vx (t:CG) (a:CE):CS:=⟨Ang t.f a.f,Nat.max t.n a.n,λ s st=>wS 6 st λ F=>wE 3 F.e1 λ G=>swV s.ks G.es F.e2 none&&(t.ck true s (.Tuple G.es G.n G.p)&&(Qs F.e2&&a.ck s F.e2)),λ B d hK hd s st h=>eS h λ F h=>vE (P:=λ y=>SS B d s.ks s.xs (.Assign [y] F.e2 F.p) _) h λ G h=>
 Az4 (a.ok B d hK (Dp hd) s _ (ba (ba (ba h).2).2).2) (t.ok B d hK (m1 hd) true s _ (ba (ba h).2).1) (Y7 (ba (ba (ba h).2).2).1) (Ajm (ba h).1)⟩
def Ka (i j:Nat) (a:CE):CS:=⟨Ang (A3g i j) a.f,a.n,λ s st=>wS 6 st λ F=>wE 3 F.e1 λ G=>two G.es λ y z=>wE 1 y λ Y=>wE 1 z λ Z=>isK s i Y.x .local&&(isK s j Z.x .local&&((swV s.ks [.Name Y.x Y.p,.Name Z.x Z.p] F.e2 (some [Y.x,Z.x])&&(Qs F.e2&&a.ck s F.e2)))),λ B d hK hd s st h=>eS h λ F h=>vE (P:=λ y=>SS B d s.ks s.xs (.Assign [y] F.e2 F.p) _) h λ G h=>
 Ajz (P:=λ l=>SS B d s.ks s.xs (.Assign [.Tuple l G.n G.p] F.e2 F.p) _) h λ y z h=>vE (P:=λ y=>SS B d s.ks s.xs (.Assign [.Tuple [y,z] G.n G.p] F.e2 F.p) _) h λ Y h=>vE (P:=λ z=>SS B d s.ks s.xs (.Assign [.Tuple [.Name Y.x Y.p,z] G.n G.p] F.e2 F.p) _) h λ Z h=>by
  obtain ⟨h1,h⟩:=ba h
  obtain ⟨h2,h⟩:=ba h
  exact Aq2 (a.ok B d hK hd s _ (ba (ba h).2).2) (D2 h1).1 (D2 h1).2 (D2 h2).1 (D2 h2).2 (Y7 (ba (ba h).2).1) (Ajm (ba h).1)⟩
def A1s (i j m:Nat) (a:CE):CS:=⟨Ang (A3h i j m) a.f,a.n,λ s st=>wS 6 st λ F=>wE 3 F.e1 λ G=>match G.es with
  | [y,z,u]=>wE 1 y λ Y=>wE 1 z λ Z=>wE 1 u λ U=>isK s i Y.x .local&&(isK s j Z.x .local&&(isK s m U.x .local&&((swV s.ks [.Name Y.x Y.p,.Name Z.x Z.p,.Name U.x U.p] F.e2 (some [Y.x,Z.x,U.x])&&(Qs F.e2&&a.ck s F.e2)))))
  | _=>false,λ B d hK hd s st h=>eS h λ F h=>vE (P:=λ y=>SS B d s.ks s.xs (.Assign [y] F.e2 F.p) _) h λ G h=>by
 show SS B d s.ks s.xs (.Assign [.Tuple G.es G.n G.p] F.e2 F.p) _
 match he:G.es,h with
 | [y,z,u],h=>
  exact vE (P:=λ y=>SS B d s.ks s.xs (.Assign [.Tuple [y,z,u] G.n G.p] F.e2 F.p) _) h λ Y h=>vE (P:=λ z=>SS B d s.ks s.xs (.Assign [.Tuple [.Name Y.x Y.p,z,u] G.n G.p] F.e2 F.p) _) h λ Z h=>vE (P:=λ u=>SS B d s.ks s.xs (.Assign [.Tuple [.Name Y.x Y.p,.Name Z.x Z.p,u] G.n G.p] F.e2 F.p) _) h λ U h=>by
   obtain ⟨h1,h⟩:=ba h
   obtain ⟨h2,h⟩:=ba h
   obtain ⟨h3,h⟩:=ba h
   exact Aq3 (a.ok B d hK hd s _ (ba (ba h).2).2) (D2 h1).1 (D2 h1).2 (D2 h2).1 (D2 h2).2 (D2 h3).1 (D2 h3).2 (Y7 (ba (ba h).2).1) (Ajm (ba h).1)
 | [],h=>cases h
 | [_],h=>cases h
 | [_,_],h=>cases h
 | _::_::_::_::_,h=>cases h⟩
def Cn (a:CE):CS:=⟨Awo a.f,a.n,λ s st=>wS 5 st λ F=>Aix F.e1&&a.ck s F.e1,λ B d hK hd s st h=>eS h λ F h=>Auu (a.ok B d hK hd s _ (ba h).2) (Ale (ba h).1)⟩
def Ay (a:CE):CS:=⟨A2t a.f,a.n,λ s st=>wS 1 st λ F=>a.ck s F.e1,λ B d hK hd s st h=>eS h λ F h=>Az6 (a.ok B d hK hd s _ h)⟩
def Ig:CS:=⟨Alr,0,λ Z Z=>true,λ B d hK hd s st h=>Auv⟩
def Bz (t:CT) (a b:Np):CS:=⟨sIf t.f a.f b.f,Nat.max t.n (Nat.max a.n b.n),λ s st=>wS 2 st λ F=>t.ck s F.e1&&(a.ck s F.b1&&b.ck s F.ba),λ B d hK hd s st h=>eS h λ F h=>A25 (t.ok B d hK (m1 hd) s _ (ba h).1) (a.ok B d hK (m1 (Dp hd)) s _ (ba (ba h).2).1) (b.ok B d hK (Dp (Dp hd)) s _ (ba (ba h).2).2)⟩
def kWh (t:CT) (a:Np):CS:=⟨T7 t.f a.f 200,Nat.max t.n a.n,λ s st=>wS 3 st λ F=>t.ck s F.e1&&a.ck s F.b1,λ B d hK hd s st h=>eS h λ F h=>Aq4 200 (t.ok B d hK (m1 hd) s _ (ba h).1) (a.ok B d hK (Dp hd) s _ (ba h).2)⟩
def Gx (i:CI) (t:CG) (a:Np):CS:=⟨A2r 200 i.f t.f a.f,Nat.max i.n (Nat.max t.n a.n),λ s st=>wS 4 st λ F=>Qs F.e2&&(i.ck s F.e1 F.e2&&(t.ck true s F.e1&&a.ck s F.b1)),λ B d hK hd s st h=>eS h λ F h=>Az5 200 (i.ok B d hK (m1 hd) s _ _ (ba (ba h).2).1) (t.ok B d hK (m1 (Dp hd)) true s _ (ba (ba (ba h).2).2).1) (a.ok B d hK (Dp (Dp hd)) s _ (ba (ba (ba h).2).2).2) (Yo (ba h).1)⟩
def At:Np:=⟨A2s,0,λ Z l=>l.isEmpty,λ B d hK hd s l h=>by
 cases l with
 | nil=>exact Au1
 | cons a r=>cases h⟩
def Ag (a:CS) (b:Np):Np:=⟨A2u a.f b.f,Nat.max a.n b.n,λ s l=>match l with
  | st::r=>a.ck s st&&b.ck s r
  | []=>false,λ B d hK hd s l h=>by
 cases l with
 | nil=>cases h
 | cons st r=>exact Aq5 (a.ok B d hK (m1 hd) s st (ba h).1) (b.ok B d hK (Dp hd) s r (ba h).2)⟩
def Av4:Np:=⟨Alr,0,λ Z Z=>true,λ B d hK hd s l h=>Au0⟩
end
section
def Adk (st:Option Stmt):Arguments:=match fdV st with
 | some V=>V.1
 | none=>⟨[],[],none,[],[],none,[]⟩
def fnC (ck:Sc->List Stmt->Bool) (xs:List Str) (k n:Nat) (V:Arguments×List Stmt×Scope):Bool:=decide (V.2.2.kind=.function/\V.2.2.isCoroutine=false/\V.2.2.isGenerator=false/\xs.length=k+n/\xs.Nodup/\(V.2.2.names.map (·.1)).Nodup)&&((xs.all λ x=>V.2.2.names.lookup x==some .local||V.2.2.names.lookup x==some .cell)&&ck ⟨V.2.2.names,xs⟩ V.2.1)
def fnB (st:Option Stmt) (ck:Sc->List Stmt->Bool) (xs:List Str) (k n:Nat):Bool:=onB (fdV st) (fnC ck xs k n)
theorem Ayr {α:Type} {o:Option α} {k:α->Bool} {a:α} (h:onB o k=true) (e:o=some a):k a=true:=by rw [e] at h;exact h
theorem Afj {fd:FuncData} {as:Arguments} {vs:List Value} (h1:fd.params=as) (h7:fd.defaults=.none) {r:Sem (List (Str×Value))} (h:bindArgs {fd with params:=as,defaults:=.none} ⟨vs,[]⟩=r):bindArgs fd ⟨vs,[]⟩=r:=by
 rw [<- h1,<-h7] at h;exact h
theorem Ay8 {B:Aq} {a k n:Nat} {st:Option Stmt} {xs:List Str} {b:Np} (hK:Xt B.K) (hf:fnT.lookup a=some st)
  (hb:∀ fd:FuncData,∀ vs:List Value,vs.length=k->bindArgs {fd with params:=Adk st,defaults:=.none} ⟨vs,[]⟩=pure ((xs.take k).zip vs)) (hc:fnB st b.ck xs k n=true):SFc B (b.n+1) a k (Ye n b.f):=by
 obtain ⟨V,oc,od,fd,osl,hV,hl,L,h8⟩:=hK.fn.lk hf
 have hc:=Ayr hc hV
 have c:=of_decide_eq_true (ba hc).1
 have hn:=c.2.2.2.1
 have hA:Adk st=V.1:=by unfold Adk;rw [hV]
 exact Aur (ks:=V.2.2.names) ⟨⟨_,_,_,hl⟩,congrArg (·.names) L.2.2.1,L.2.2.1▸c.1,L.2.2.1▸c.2.1,L.2.2.1▸c.2.2.1,L.2.1,L.2.2.2.1,L.2.2.2.2.1,L.2.2.2.2.2.1,h8,λ vs hv=>Afj L.1 L.2.2.2.2.2.2 (hA▸hb fd vs hv),by rw [List.length_take,hn];exact Nat.min_eq_left (Nat.le_add_right _ _)⟩ hn c.2.2.2.2.1
  (λ x hx=>(Bool.or_eq_true_iff.mp (List.all_eq_true.mp (ba (ba hc).2).1 x hx)).imp eq_of_beq eq_of_beq) c.2.2.2.2.2 (b.ok B b.n hK (Nat.le_refl _) ⟨V.2.2.names,xs⟩ V.2.1 (ba (ba hc).2).2)
def Ce {a:Nat} (k n:Nat) {st:Option Stmt} (xs:List Str) (b:Np) (hf:fnT.lookup a=some st)
  (hb:∀ fd:FuncData,∀ vs:List Value,vs.length=k->bindArgs {fd with params:=Adk st,defaults:=.none} ⟨vs,[]⟩=pure ((xs.take k).zip vs)) (hc:fnB st b.ck xs k n=true):Bh a k:=⟨Ye n b.f,b.n+1,λ B hK=>Ay8 hK hf hb hc⟩
def kF0 (a k:Nat):Bh a k:=⟨λ Z Z Z=>false,0,λ B hK A s J σ ps vs hR st r hk κ R e hQ=>ff e⟩
def Apk {a k:Nat} (f:Bh a k->Bh a k) (n:Nat):Bh a k:=@Nat.rec (λ Z=>Bh a k) (kF0 a k) (λ Z ih=>f ih) n
def Cr:=kBi "len" Ac7 λ Z=>Atw
def Axp:=kBi "sum" Axv λ Z=>At0
def A02:=kBi "max" Axs λ Z=>Atx
def A4w:=kBi "min" Axt λ Z=>Aty
def Rt:=kBi "sorted" D6 λ Z=>Ajg
def A01:=kTy "int" Axr λ Z=>At1
def A4x:=kTy "str" Axu λ Z=>At2
def Em:=kTy "tuple" Aoc λ Z=>Ani
def Aoa:=kTy "list" Wn λ Z=>Aqo
def Abh:=kTy "dict" Ar2 λ Z=>Aqn
def Ah6:=kTy "range" Aob λ Z=>Anh
def B8:=kBm (λ Z=>Api) "append" PySem.F.plainAttrs_list PySem.F.slot_list_append rfl λ Z=>Ajd
def Sn:=kBm (λ Z=>Api) "extend" PySem.F.plainAttrs_list PySem.F.slot_list_extend rfl λ Z=>Aje
def Ak8:=kBm (λ Z=>Apf) "setdefault" PySem.F.plainAttrs_dict PySem.F.slot_dict_setdefault rfl λ Z=>Ajf
def Vz:=kBm (λ Z=>Apf) "get" PySem.F.plainAttrs_dict PySem.F.slot_dict_get rfl λ Z=>Atv
def Ayf:=kBm (λ Z=>A1w) "isspace" PySem.F.plainAttrs_str PySem.F.slot_str_isspace rfl λ Z=>Ag1
def As4:=kBm (λ Z=>Api) "pop" PySem.F.plainAttrs_list PySem.F.slot_list_pop rfl λ Z=>Atz
def A15:=kBm (λ Z=>Apf) "pop" PySem.F.plainAttrs_dict PySem.F.slot_dict_pop rfl λ Z=>Aqm
def Cj:=Ain .Add λ Z=>Azg
def Apy:=Ain .Add λ Z=>Atu
def Am6:=Ain .Sub λ Z=>Azk
def A19:=Ain .Mult λ Z=>Azi
def Ayn:=Ain .Mod λ Z=>Azh
def Aym:=Ain .FloorDiv λ Z=>Aql
def A5p:=Ain .Pow λ Z=>Azj
def cEq:=Asv .Eq λ Z=>Awr
def cLt:=Asv .Lt λ Z=>Als
def cGt:=Asv .Gt λ Z=>Aws
def cNe:=Asv .NotEq λ Z=>Awt
def tEq:=M3 .Eq λ Z=>Awr
def tNe:=M3 .NotEq λ Z=>Awt
def tLt:=M3 .Lt λ Z=>Als
def tLe:=M3 .LtE λ Z=>Aqq
def tGt:=M3 .Gt λ Z=>Aws
def tGe:=M3 .GtE λ Z=>A2v
def tIs:=M3 .Is λ Z=>A2x
def Arc:=M3 .IsNot λ Z=>Aqp
def tIn:=M3 .In λ Z=>A2w
def Anp:=M3 .NotIn λ Z=>Aqr
def Aw0:=M3 .NotIn λ Z=>Ajh
end
section
set_option maxHeartbeats 0
def Da:Bh 98 1:=Ce 1 0 ["t"] (Ag (Ay (Asu (cEq (Cr (kC (Aa 0) kN)) (Al 1)) (cEq (Af5 (Ak (Aa 0) (Al 0)) (Al 1)) (Ac 64)))) At) rfl (λ Z=>Ru λ Z=>rfl) (by kernel_rfl)
def Fy (f:Bh 108 1):Bh 108 1:=Ce 1 3 ["t","found","k","kid"] (Ag (Br 1 (Cf (kC (Ad (kC (Ad kN) (kC (Aa 0) kN))) kN))) (Ag (Gx (iEn (kC (Dn (Aa 0) (Al 1)) kN)) (Lq (Cm (gN 2) (Cm (gN 3) Lp))) (Ag (Cn (Sn (Aa 1) (kC (B9 (Wp 2 [2] (iK (Ai f (kC (Aa 3) kN))) (Lq (Cm (gN 0) (Cm (gN 1) Lp))) (Ad (kC (Cj (Ad (kC (Aa 2) kN)) (Aa 0)) (kC (Aa 1) kN))))) kN))) At)) (Ag (Ay (Aa 1)) At))) rfl (λ Z=>Ru λ Z=>rfl) (by kernel_rfl)
def A3o:=Apk Fy
def Amd (f:Bh 238 2):Bh 238 2:=Ce 2 0 ["pattern","table"] (Ag (Bz (V4 (Ai Da (kC (Aa 0) kN))) (Ag (Ay (Vz (Aa 1) (kC (Ak (Aa 0) (Al 0)) (kC (Aa 0) kN)))) At) At) (Ag (Ay (Cj (Ad (kC (Ak (Aa 0) (Al 0)) kN)) (Em (kC (B9 (Wp 1 [1] (iK (Dn (Aa 0) (Al 1))) (gN 0) (Ai f (kC (Aa 0) (kC (Aa 1) kN))))) kN)))) At)) rfl (λ Z=>Nr λ Z Z=>rfl) (by kernel_rfl)
def A0v:=Apk Amd
def Di:Bh 864 2:=Ce 2 0 ["deck","wide"] (Ag (Fe (Aa 0) (Ac 245366882) (Cj (Ak (Aa 0) (Ac 245366882)) (Al 1))) (Ag (Bz (tLe (Ak (Aa 0) (Ac 245366882)) (Cr (kC (Ak (Aa 0) (Ac 0x74000368001b4000cc00064)) kN))) (Ag (Ay (Ayn (Ak (Ak (Aa 0) (Ac 0x74000368001b4000cc00064)) (Am6 (Ak (Aa 0) (Ac 245366882)) (Al 1))) (Aa 1))) At) At) (Ag (Ay (Ayn (Aym (Cj (A19 (A19 (Al 3) (Ak (Aa 0) (Ac 245366882))) (Ak (Aa 0) (Ac 245366882))) (Al 4)) (Al 5)) (Aa 1))) At))) rfl (λ Z=>Nr λ Z Z=>rfl) (by kernel_rfl)
end
section
def clo (p:PV):Prop:=@PV.rec (λ Z=>Prop) (λ Z=>Prop) True (λ Z=>True) (λ Z=>True) (λ Z=>True) (λ Z ih=>ih) (λ Z ih=>ih) (λ Z Z=>False) (λ Z=>False) (λ Z=>True) (λ Z=>True) True (λ Z Z hp hl=>hp/\hl) p
def Aid (l:List PV):Prop:=@PV.rec_1 (λ Z=>Prop) (λ Z=>Prop) True (λ Z=>True) (λ Z=>True) (λ Z=>True) (λ Z ih=>ih) (λ Z ih=>ih) (λ Z Z=>False) (λ Z=>False) (λ Z=>True) (λ Z=>True) True (λ Z Z hp hl=>hp/\hl) l
section
variable {w:World} {J J':Aj} {h h0:Heap}
theorem Afo:∀ cs:List Int,Aid (cs.map PV.int)
 | []=>trivial
 | _::l=>⟨trivial,Afo l⟩
theorem Mw (hp:J.l <+: J'.l) (hh:∀ a,J.has a->J'.has a):∀ p v v0,(clo p\/Ae J h0 p v0)->Ae J' h p v->Ae J h p v:=λ p=>
 @PV.rec (λ p=>∀ v v0,(clo p\/Ae J h0 p v0)->Ae J' h p v->Ae J h p v) (λ l=>∀ vs vs0,(Aid l\/RepL J h0 l vs0)->RepL J' h l vs->RepL J h l vs) (λ Z Z Z r=>r) (λ Z Z Z Z r=>r) (λ Z Z Z Z r=>r) (λ Z Z Z Z r=>r)
  (λ l ih v v0 c r=>Cw r λ a vs n d t q=>c.elim (λ c=>Ek (λ x=>n (hh a x)) d t (ih vs [] (.inl c) q)) λ r0=>Cw (P:=λ Z=>Ae J h (.tup l) (.ref a)) r0 λ Z vs0 Z Z Z q0=>Ek (λ x=>n (hh a x)) d t (ih vs vs0 (.inr q0) q))
  (λ l ih v v0 c r=>Mu r λ a vs n t q=>c.elim (λ c=>Hv (λ x=>n (hh a x)) t (ih vs [] (.inl c) q)) λ r0=>Mu (P:=λ Z=>Ae J h (.lst l) (.ref a)) r0 λ Z vs0 Z Z q0=>Hv (λ x=>n (hh a x)) t (ih vs vs0 (.inr q0) q))
  (λ C d v v0 c r=>c.elim (λ c=>c.elim) λ r0=>Y2 r λ x dx hc e t=>Y2 (P:=λ Z=>Ae J h (.inst C d) (.ref x)) r0 λ Z dx0 Z e0 Z=>Ajp hc (Option.some.inj ((Df hp e0).symm.trans e)▸e0) t)
  (λ i v v0 c r=>c.elim (λ c=>c.elim) λ r0=>F7 r λ a e=>F7 (P:=λ Z=>Ae J h (.obj i) (.ref a)) r0 λ a0 e0=>Vi (Option.some.inj ((Df hp e0).symm.trans e)▸e0))
  (λ Z Z Z Z r=>r) (λ Z Z Z Z r=>r) (λ Z Z Z r=>r)
  (λ p l ip il vs vs0 c r=>A8 r λ v us a b=>c.elim (λ c=>Bd (ip v .none (.inl c.1) a) (il us [] (.inl c.2) b)) λ r0=>A8 (P:=λ Z=>RepL J h (p::l) (v::us)) r0 λ v0 us0 a0 b0=>Bd (ip v v0 (.inr a0) a) (il us us0 (.inr b0) b)) p
theorem Ny (hp:J.l <+: J'.l) (hh:∀ a,J.has a->J'.has a):∀ l vs vs0,(Aid l\/RepL J h0 l vs0)->RepL J' h l vs->RepL J h l vs
 | [],_,_,_,r=>r
 | p::l,vs,vs0,c,r=>A8 r λ v us a b=>c.elim (λ c=>Bd (Mw (h0:=h0) hp hh _ v .none (.inl c.1) a) (Ny hp hh l us [] (.inl c.2) b)) λ r0=>A8 (P:=λ Z=>RepL J h (p::l) (v::us)) r0 λ v0 us0 a0 b0=>Bd (Mw hp hh _ v v0 (.inr a0) a) (Ny hp hh l us us0 (.inr b0) b)
theorem T6 (hp:J.l <+: J'.l) (hh:∀ a,J.has a->J'.has a):∀ {l:List (PV×PV)} {es es0:List DictEntry},Bg w J h0 l es0->Bg w J' h l es->Bg w J h l es
 | _,_,_,.nil,.nil=>.nil
 | _,_,_,.cons a0 b0 _ r0,.cons a b c r=>.cons (Mw hp hh _ _ _ (.inr a0) a) (Mw hp hh _ _ _ (.inr b0) b) c (T6 hp hh r0 r)
theorem Ane (hp:J.l <+: J'.l) (hh:∀ a,J.has a->J'.has a) {po:PO} {o o0:Obj} (r0:Ef w J h0 po o0) (r:Ef w J' h po o):Ef w J h po o:=by
 cases po with
 | list l=>
  obtain ⟨_,_,_,vs0,_,_,q0⟩:=r0
  obtain ⟨a,b,c,vs,n,d,q⟩:=r
  exact ⟨a,b,c,vs,n,d,Ny hp hh l vs vs0 (.inr q0) q⟩
 | dict kvs f=>
  obtain ⟨_,_,es0,_,_,_,q0⟩:=r0
  obtain ⟨a,b,es,n,d,e,q⟩:=r
  exact ⟨a,b,es,n,d,e,T6 hp hh q0 q⟩
 | att kvs=>
  obtain ⟨_,_,es0,_,_,q0⟩:=r0
  obtain ⟨a,b,es,n,d,q⟩:=r
  exact ⟨a,b,es,n,d,T6 hp hh q0 q⟩
 | hid=>exact r
 | deck m=>
  obtain ⟨a,es,n,d,cs,z,q⟩:=r
  refine ⟨a,es,n,d,cs,z,?_⟩
  cases q with
  | cons r1 r2 c q=>cases q with
   | cons r3 r4 c' q=>cases q;exact .cons r1 (Mw (h0:=h0) hp hh _ _ .none (.inl (Afo cs)) r2) c (.cons r3 r4 c' .nil)
end
section
variable {B:Aq} {J J':Aj} {σ σ':PS} {s s':Shared}
theorem Nx.down (st:St B J σ s.heap) (x:Nx B Ao J s J' σ' s') (hs:∀ j,j<σ.n->gT σ'.t j=gT σ.t j):Nx B Ao J s J σ s':=by
 have hh:∀ a,J.has a->J'.has a:=λ a q=>q.imp (λ q=>x.g.pre.subset q) λ q=>x.g.eta.symm▸q
 refine ⟨⟨⟨List.prefix_refl _,λ b o e n m=>x.g.keep b o e n m,λ Z q=>.inl q,rfl⟩,λ Z Z q=>q.elim⟩,x.m,⟨x.st.base,st.fresh,st.low,st.nodup,st.len,λ i a e=>?_,λ a q=>?_⟩,st.idOk,Ab _ _⟩
 ·obtain ⟨o,e1,r⟩:=x.st.objs i a (Df x.g.pre e)
  obtain ⟨o0,_,r0⟩:=st.objs i a e
  rw [hs i (st.len▸(List.getElem?_eq_some_iff.mp e).1)] at r
  exact ⟨o,e1,Ane x.g.pre hh r0 r⟩
 ·obtain ⟨n,r⟩:=x.st.hid a (x.g.eta.symm▸q)
  exact ⟨λ q=>n (x.g.pre.subset q),r⟩
open Classical in
def Asg (σ:PS) (l:List PV):PV->PS->Bool:=λ p σ'=>decide (∃ i,p=.obj i/\Aid l/\σ.n≤i/\gT σ'.t i=.list l/\∀ j,j<σ.n->gT σ'.t j=gT σ.t j)
theorem Ajk {a d k:Nat} {F G:Fn} (h:SFc B d a k F) (hg:∀ ps σ κ,G ps σ κ=true->∃ l,κ (.lst l) σ=true/\F ps σ (Asg σ l)=true):SFc B d a k G:=λ A s J σ ps vs hR st r hk κ R e hQ=>by
 obtain ⟨l,e,e1⟩:=hg ps σ κ e
 refine h A s J σ ps vs hR st r hk _ R e1 λ v s' J' p σ' e2 x rv=>?_
 obtain ⟨i,rfl,hc,hi,hl,hs⟩:=@of_decide_eq_true _ (Classical.propDecidable _) e2
 have y:=x.down st hs
 refine hQ v s' J (.lst l) σ e y (F7 rv λ a ea=>?_)
 obtain ⟨o,ho,r⟩:=x.st.objs i a ea
 rw [hl] at r
 obtain ⟨c1,_,_,vs',n,hd,rl⟩:=r
 have hh:∀ a,J.has a->J'.has a:=λ a q=>q.imp (λ q=>x.g.pre.subset q) λ q=>x.g.eta.symm▸q
 refine Hv (λ q=>q.elim (λ q=>?_) λ q=>(x.st.hid a (x.g.eta.symm▸q)).1 (List.mem_iff_getElem?.mpr ⟨i,ea⟩)) ⟨o,ho,c1,n,hd⟩ (Ny (h0:=s.heap) x.g.pre hh l vs' [] (.inl hc) rl)
 obtain ⟨j,hj⟩:=List.mem_iff_getElem?.mp q
 obtain ⟨h1,e1⟩:=List.getElem?_eq_some_iff.mp (Df x.g.pre hj)
 obtain ⟨h2,e3⟩:=List.getElem?_eq_some_iff.mp ea
 have:j=i:=(List.getElem_inj x.st.nodup).mp (e1.trans e3.symm)
 exact absurd (this▸st.len▸(List.getElem?_eq_some_iff.mp hj).1) (Nat.not_lt.mpr hi)
theorem Dz {a d k:Nat} {F G:Fn} (h:SFc B d a k F) (hg:∀ ps σ κ,ps.length=k->G ps σ κ=true->F ps σ κ=true):SFc B d a k G:=λ A s J σ ps vs hR st r hk κ R e hQ=>h A s J σ ps vs hR st r hk κ R (hg ps σ κ hk e) hQ
end
end
section
theorem Hu (i:Nat) (o:PO) (σ:PS):∃ t',Put σ.t t' i o/\∀ k,Cb i o σ k=k ⟨σ.n,t'⟩:=by
 obtain ⟨n,t⟩:=σ
 obtain ⟨t',p,e⟩:=Ajc (o:=o) (i+1) i t
 exact ⟨t',p,λ k=>e λ t'=>k ⟨n,t'⟩⟩
theorem Io (o:PO) (σ:PS):∃ t',Put σ.t t' σ.n o/\∀ k,Am o σ k=k σ.n ⟨σ.n+1,t'⟩:=by
 obtain ⟨n,t⟩:=σ
 obtain ⟨t',p,e⟩:=Ajc (o:=o) (n+1) n t
 exact ⟨t',p,λ k=>e λ t'=>k n ⟨n+1,t'⟩⟩
theorem Ai0 {i:Nat} {σ:PS} {kvs:List (PV×PV)} {f:Bool} (h:gT σ.t i=.dict kvs f) (kl:List PV->Bool) (kd:List (PV×PV)->Bool->Bool):Ys i σ kl kd=kd kvs f:=by unfold Ys;rw [h]
theorem Awh {i:Nat} {σ:PS} {kvs:List (PV×PV)} {f:Bool} (h:gT σ.t i=.dict kvs f) (kd:List (PV×PV)->Bool->Bool):V0 i σ kd=kd kvs f:=by unfold V0;rw [h]
section
variable {B:Aq} {own:Addr->Prop} {J J':Aj} {σ σ1 σ2:PS} {s s':Shared} {h:Heap}
theorem St.conv (st:St B J σ1 h) (hn:σ2.n=σ1.n) (ho:∀ j o,Ef B.w J h (gT σ1.t j) o->Ef B.w J h (gT σ2.t j) o):St B J σ2 h:=
 ⟨st.base,st.fresh,st.low,st.nodup,st.len.trans hn.symm,λ i a e=>(st.objs i a e).elim λ o r=>⟨o,r.1,ho i o r.2⟩,st.hid⟩
theorem Nx.conv (x:Nx B own J s J' σ1 s') (hn:σ2.n=σ1.n) (ho:∀ j o,Ef B.w J' s'.heap (gT σ1.t j) o->Ef B.w J' s'.heap (gT σ2.t j) o):Nx B own J s J' σ2 s':=⟨x.g,x.m,x.st.conv hn ho,x.id,x.ok⟩
end
def aP:PV:=.str 245366882
def cP:PV:=.str 0x74000368001b4000cc00064
def Rz (i:Nat) (σ:PS) (k:Nat->Bool):Bool:=@PO.rec (λ Z=>Bool) F1 F2 F1 false k (gT σ.t i)
theorem Aom {C:Prop} {i:Nat} {σ:PS} {k:Nat->Bool} (h:Rz i σ k=true) (H:∀ m,gT σ.t i=.deck m->k m=true->C):C:=by
 unfold Rz at h
 cases e:gT σ.t i with
 | deck m=>rw [e] at h;exact H m e h
 | _=>rw [e] at h;exact ff h
def drawn (cs:List Int) (m w:Nat):Int:=if h:m<cs.length then cs[m].fmod w else ((3*((m:Int)+1)*((m:Int)+1)+4).fdiv 5).fmod w
theorem Amk {cs:List Int} {m:Nat}:Bw (F4 cs m):=⟨⟨1,by decide,λ x hx=>by
 rcases List.mem_cons.mp hx with rfl|hx
 ·exact ⟨rfl,rfl⟩
 ·cases List.eq_of_mem_singleton hx;exact ⟨rfl,rfl⟩⟩,by
 refine List.nodup_cons.mpr ⟨λ h=>?_,List.nodup_cons.mpr ⟨zzj,List.nodup_nil⟩⟩
 have:=List.eq_of_mem_singleton h
 injection this with h
 exact absurd h (by decide)⟩
section
variable {i m w:Nat} {cs:List Int} {f:Bool} {σ:PS} {t':TS}
theorem Ag8 (hd:gT σ.t i=.dict (F4 cs m) f) (k:PV->Bool):Ar (.obj i) aP σ k=k (.int (Int.ofNat m)):=(Ai0 hd (λ l=>Eu (λ i=>nth l i k) aP) λ kvs Z=>bC false (Ih aP kvs false k) (Co aP kvs)).trans rfl
theorem Aww (hd:gT σ.t i=.dict (F4 cs m) f) (k:PV->Bool):Ar (.obj i) cP σ k=k (.lst (cs.map PV.int)):=(Ai0 hd (λ l=>Eu (λ i=>nth l i k) cP) λ kvs Z=>bC false (Ih cP kvs false k) (Co cP kvs)).trans rfl
theorem A23 (hd:gT σ.t i=.dict (F4 cs m) f) (hs:∀ k,Cb i (.dict (F4 cs (m+1)) f) σ k=k ⟨σ.n,t'⟩) (k:PS->Bool):Od (.obj i) aP (.int (Int.ofNat (m+1))) σ k=k ⟨σ.n,t'⟩:=
 ((Ai0 hd (λ l=>Ip (λ n=>Aqu l n (.int (Int.ofNat (m+1))) λ l=>Cb i (.list l) σ k) aP) λ kvs f=>bC false (bC false (Vy aP (.int (Int.ofNat (m+1))) kvs λ kvs=>Cb i (.dict kvs f) σ k) (An kvs)) (Co aP kvs)).trans rfl).trans (hs k)
theorem Alh {α:Type} {k:α->Bool}:∀ {l:List α} {i:Nat} {x:α},l[i]?=some x->Atb l i k=k x
 | _::_,0,_,h=>congrArg k (Option.some.inj h)
 | _::l,i+1,_,h=>Alh (l:=l) (i:=i) h
theorem Vw {a b:Bool} {c:Bool} (h:c=true):bC a b c=b:=h▸rfl
theorem A4v {a b:Bool} {c:Bool} (h:c=false):bC a b c=a:=h▸rfl
theorem Mz {α:Type} {l:List α} (h:l.length≤1000):An l=true:=Nat.ble_eq_true_of_le ((By l).symm▸Nat.le_trans h (by decide))
theorem pick_run {κ:PV->PS->Bool} (hd:gT σ.t i=.dict (F4 cs m) f) (hz:cs.length≤1000) (hm:m<200) (hw:0<w) (hp:Put σ.t t' i (.dict (F4 cs (m+1)) f)) (hs:∀ k,Cb i (.dict (F4 cs (m+1)) f) σ k=k ⟨σ.n,t'⟩):Di.F [.obj i,.int (Int.ofNat w)] σ κ=κ (.int (drawn cs m w)) ⟨σ.n,t'⟩:=by
 have e1:Di.F [.obj i,.int (Int.ofNat w)] σ κ=Ar (.obj i) aP σ λ y=>Qn y (.int 1) σ λ v σ=>Od (.obj i) aP v σ λ σ=>
  Ar (.obj i) aP σ λ a=>Ar (.obj i) cP σ λ c=>Hs [c] σ λ n σ=>pLe a n σ λ b σ=>bC
   (Ar (.obj i) aP σ λ a=>Ayw (.int 3) a σ λ a3 σ=>Ar (.obj i) aP σ λ a=>Ayw a3 a σ λ q σ=>Qn q (.int 4) σ λ q σ=>Ai2 q (.int 5) σ λ q σ=>Am7 q (.int (Int.ofNat w)) σ κ)
   (Ar (.obj i) cP σ λ c=>Ar (.obj i) aP σ λ a=>Ath a (.int 1) σ λ j σ=>Ar c j σ λ x=>Am7 x (.int (Int.ofNat w)) σ κ) b:=by
  kernel_rfl
 have hw0:(Int.ofNat w==0)=false:=beq_eq_false_iff_ne.mpr λ e=>absurd (Int.ofNat.inj e) (Nat.ne_of_gt hw)
 have hg:gT (PS.mk σ.n t').t i=.dict (F4 cs (m+1)) f:=hp.1
 have hmod:∀ x:Int,Am7 (.int x) (.int (Int.ofNat w)) (PS.mk σ.n t') κ=κ (.int (x.fmod w)) ⟨σ.n,t'⟩:=λ x=>A4v hw0
 refine e1.trans ((Ag8 hd _).trans ((A23 hd hs _).trans ((Ag8 hg _).trans ((Aww hg _).trans ?_))))
 have hl:len (cs.map PV.int)=cs.length:=(By _).trans (List.length_map _)
 have hsm:An (cs.map PV.int)=true:=Mz (by rw [List.length_map];exact hz)
 refine (Vw hsm).trans ((nF_ _ _).trans ?_)
 show nt (λ b=>bC _ _ b) (Nat.blt (len (cs.map PV.int)) (m+1))=_
 rw [hl]
 cases hb:Nat.blt cs.length (m+1) with
 | true=>
  have hn:¬ m<cs.length:=Nat.not_lt.mpr (Nat.le_of_lt_succ (zzi hb))
  refine (Ag8 hg _).trans ((Ag8 hg _).trans ?_)
  unfold drawn
  rw [dif_neg hn]
  have h3:Nat.blt (3*Int.ofNat (m+1)).natAbs 1000=true:=Nat.ble_eq_true_of_le (by show (3*((m+1:Nat):Int)).natAbs+1≤1000;omega)
  refine (Vw h3).trans ?_
  refine (Avj (λ i=>Ai2 (.int i) (.int 5) (PS.mk σ.n t') λ q σ=>Am7 q (.int (Int.ofNat w)) σ κ) (3*Int.ofNat (m+1)*Int.ofNat (m+1)) 4).trans ?_
  exact hmod _
 | false=>
  have hn:m<cs.length:=Nat.lt_of_not_le λ q=>absurd (Nat.ble_eq_true_of_le (Nat.succ_le_succ q)) (by rw [show Nat.ble (cs.length+1) (m+1)=Nat.blt cs.length (m+1) from rfl,hb];decide)
  refine (Aww hg _).trans ((Ag8 hg _).trans ?_)
  unfold drawn
  rw [dif_pos hn]
  have hx:(cs.map PV.int)[m]?=some (.int cs[m]):=by rw [List.getElem?_map,List.getElem?_eq_getElem hn];rfl
  refine (Awx (λ j=>nth (cs.map PV.int) j λ x=>Am7 x (.int (Int.ofNat w)) (PS.mk σ.n t') κ) (Int.ofNat (m+1)) 1).trans ?_
  have hj:Int.ofNat (m+1) - 1=Int.ofNat m:=by show ((m+1:Nat):Int) - 1=(m:Int);omega
  rw [hj]
  refine (Vw (show Nat.ble m Bv=true from Nat.ble_eq_true_of_le (Nat.le_trans (Nat.le_of_lt hm) (by decide)))).trans ((Alh hx).trans (hmod _))
end
end
section
def Aqa (g:Nat->(PV->PS->Bool)->PS->Bool):Fn:=λ ps σ k=>on2 ps λ p q=>Qq (λ i=>Ip (λ w=>Rz i σ λ m=>bC false (bC false (Cb i (.deck (m+1)) σ λ σ=>g w k σ) (Nat.blt 0 w)) (Nat.blt m 200)) q) p
def A4t (g:Nat->(PV->PS->Bool)->PS->Bool):Prop:=∀ w k σ,g w k σ=true->∀ x:Nat,x<w->∃ p,k p σ=true/\∀ J h t,Ae J h p (.int (Int.ofNat x) t)
theorem Aop {cs:List Int} {m w:Nat} (hw:0<w):∃ x:Nat,x<w/\drawn cs m w=Int.ofNat x:=by
 have hw:(0:Int)<(w:Int):=Int.ofNat_lt.mpr hw
 have key:∀ y:Int,∃ x:Nat,x<w/\y.fmod w=Int.ofNat x:=λ y=>(Int.eq_ofNat_of_zero_le (Int.fmod_nonneg_of_pos y hw)).elim λ x e=>⟨x,Int.ofNat_lt.mp (e▸Int.fmod_lt_of_pos y hw),e⟩
 unfold drawn
 split
 ·exact key _
 ·exact key _
open Classical in
theorem Ags {B:Aq} (hK:Xt B.K) {g:Nat->(PV->PS->Bool)->PS->Bool} (hg:A4t g):SFc B Di.n 864 2 (Aqa g):=λ A s J σ ps vs hR st r hk κ R e hQ=>by
 refine Yr e λ p q hp e=>?_
 subst hp
 obtain ⟨i,rfl,e⟩:=Alw e
 obtain ⟨wi,rfl,e⟩:=S6 e
 cases wi with
 | negSucc n=>exact ff e
 | ofNat w=>
  refine Bs (b:=Nat.ble w Bv) (t:=Rz i σ λ m=>bC false (bC false (Cb i (.deck (m+1)) σ λ σ=>g w κ σ) (Nat.blt 0 w)) (Nat.blt m 200)) e λ Z e=>Aom e λ m hd e=>Bs e λ hm e=>Bs e λ hw e=>?_
  have hm:m<200:=zzi hm
  have hw:0<w:=zzi hw
  have ea:∃ a,J.l[i]?=some a:=A8 (P:=λ Z=>∃ a,J.l[i]?=some a) r λ v us rv Z=>F7 (P:=λ Z=>∃ a,J.l[i]?=some a) rv λ a ea=>⟨a,ea⟩
  obtain ⟨a,ea⟩:=ea
  obtain ⟨o,ho,ro⟩:=st.objs i a ea
  rw [hd] at ro
  obtain ⟨c1,es,n,d,cs,z,q⟩:=ro
  obtain ⟨t1,p1,_⟩:=Hu i (.dict (F4 cs m) false) σ
  obtain ⟨t2,p2,s2⟩:=Hu i (.dict (F4 cs (m+1)) false) ⟨σ.n,t1⟩
  have st1:St B J ⟨σ.n,t1⟩ s.heap:=⟨st.base,st.fresh,st.low,st.nodup,st.len,λ j b eb=>by
   by_cases hj:j=i
   ·subst hj
    cases Option.some.inj (ea.symm.trans eb)
    refine ⟨o,ho,?_⟩
    rw [show gT (PS.mk σ.n t1).t j=_ from p1.1]
    exact ⟨c1,Amk,es,n,d,λ q=>(nomatch q),q⟩
   ·rw [show gT (PS.mk σ.n t1).t j=_ from p1.2 j hj]
    exact st.objs j b eb,st.hid⟩
  refine M0 e λ t3 p3 e=>?_
  have e1:=pick_run (κ:=λ p σ'=>decide (p=.int (drawn cs m w)/\σ'=⟨σ.n,t2⟩)) p1.1 z hm hw p2 s2
  refine Di.ok B hK A s J ⟨σ.n,t1⟩ _ vs hR st1 r rfl _ R (e1.trans (decide_eq_true ⟨rfl,rfl⟩)) λ v s' J' p σ' e2 x rv=>?_
  obtain ⟨rfl,rfl⟩:=of_decide_eq_true e2
  obtain ⟨y,hy,ey⟩:=Aop (cs:=cs) (m:=m) hw
  obtain ⟨p',e3,hr⟩:=hg w κ _ e y hy
  have x':Nx B Ao J s J' ⟨σ.n,t3⟩ s':=x.conv rfl λ j o' r'=>by
   by_cases hj:j=i
   ·subst hj
    rw [show gT (PS.mk σ.n t2).t j=_ from p2.1] at r'
    rw [show gT (PS.mk σ.n t3).t j=_ from p3.1]
    obtain ⟨c,_,es,n,d,_,q⟩:=r'
    exact ⟨c,es,n,d,cs,z,q⟩
   ·rw [show gT (PS.mk σ.n t2).t j=_ from (p2.2 j hj).trans (p1.2 j hj)] at r'
    rw [show gT (PS.mk σ.n t3).t j=_ from p3.2 j hj]
    exact r'
  rw [ey] at rv
  exact Eh rv λ t=>hQ _ s' J' p' _ e3 x' (hr _ _ t)
def Aln:Bh 864 2:=⟨Aqa λ w k σ=>Gw w λ v=>k (.int (Int.ofNat v)) σ,Di.n,λ B hK=>Ags hK λ w k σ e x hx=>⟨_,Akc e x hx,λ J h t=>C2 _ _⟩⟩
def A2o:Bh 864 2:=⟨Aqa λ w k σ=>k (.sym w) σ,Di.n,λ B hK=>Ags hK λ w k σ e x hx=>⟨_,e,λ J h t=>⟨x,t,hx,rfl⟩⟩⟩
end
section
def Axz:CE:=Ayn (A01 (kC (Aa 0) kN)) (Al 5040)
def mkE:CE:=Aph (kVc 0x74000368001b4000cc00064 (B9 (Wp 1 [] (iK (Af5 (Aa 0) (Al 12))) (gN 0) Axz)) (kVc 245366882 (Al 0) kV0))
theorem Ad5:∀ (l r:List PV),rvA l r=l.reverse++r
 | [],_=>rfl
 | x::l,r=>by
  show rvA l (x::r)=_
  rw [Ad5 l,List.reverse_cons,List.append_assoc];rfl
theorem Agd {σ:PS} {κ:List PV->PS->Bool}:∀ (l:List Int) (n:Nat) (y:Option PV) (acc:List PV) (b:Nat),l.length<n->l.length≤b ->
  Bl (tN 0) (Be Axz.f) n (.fix (l.map PV.int)) [y] acc b σ (λ Z acc Z σ=>κ acc σ)=κ ((l.map λ x=>PV.int (x.fmod 5040)).reverse++acc) σ
 | [],n+1,_,acc,b,_,_=>rfl
 | x::l,n+1,_,acc,b+1,hn,hb=>by
  refine (Agd l n (some (.int x)) (.int (x.fmod 5040)::acc) b (Nat.lt_of_succ_lt_succ hn) (Nat.le_of_succ_le_succ hb)).trans ?_
  rw [List.map_cons,List.reverse_cons,List.append_assoc];rfl
theorem Ao1 {ρ:Ax} {i:Nat} {p:PV} (h:Dg ρ i=some p) (k:PV->Bool):oC k (Dg ρ i)=k p:=by rw [h];rfl
theorem Ayg {l:List Int} {ρ:Ax} {σ:PS} (h:Dg ρ 0=some (.lst (l.map .int))) (hz:l.length≤1000):∃ cs:List Int,cs.length≤1000/\∃ t',Put σ.t t' σ.n (.dict (F4 cs 0) true)/\∀ k,mkE.f ρ σ k=k (.obj σ.n) ⟨σ.n+1,t'⟩:=by
 refine ⟨(l.take 12).map λ x=>x.fmod 5040,by rw [List.length_map];exact Nat.le_trans (List.length_take_le _ _) (by decide),?_⟩
 obtain ⟨t1,p1,e1⟩:=Io (.dict [] true) σ
 obtain ⟨t2,p2,e2⟩:=Hu σ.n (.dict [(cP,.lst (((l.take 12).map λ x=>x.fmod 5040).map .int))] true) ⟨σ.n+1,t1⟩
 obtain ⟨t3,p3,e3⟩:=Hu σ.n (.dict (F4 ((l.take 12).map λ x=>x.fmod 5040) 0) true) ⟨σ.n+1,t2⟩
 refine ⟨t3,⟨p3.1,λ j hj=>(p3.2 j hj).trans ((p2.2 j hj).trans (p1.2 j hj))⟩,λ k=>?_⟩
 have e0:mkE.f ρ σ k=Am (.dict [] true) σ λ i σ=>oC (λ p=>Ip (λ n=>Ahe n (λ p=>Bn p σ λ i' σ=>Bl (tN 0) (Be Axz.f) 200 i' [none] [] Bv σ λ Z acc Z σ=>Aif i [0x74000368001b4000cc00064,245366882] [.lst (rv acc),.int 0] σ λ σ=>k (.obj i) σ) p σ) (.int 12)) (Dg ρ 0):=by kernel_rfl
 refine e0.trans ((e1 _).trans ((Ao1 h _).trans ?_))
 have hs:An (l.map PV.int)=true:=Mz (by rw [List.length_map];exact hz)
 have e4:∀ κ:PV->Bool,Ip (λ n=>Ahe n κ (.lst (l.map PV.int)) (PS.mk (σ.n+1) t1)) (.int 12)=κ (.lst ((l.take 12).map PV.int)):=λ κ=>(Vw hs).trans ((Y9 _ _ _).trans (by rw [List.map_take]))
 refine (e4 _).trans ?_
 refine (Agd (κ:=λ acc σ'=>Aif σ.n [0x74000368001b4000cc00064,245366882] [.lst (rv acc),.int 0] σ' λ σ'=>k (.obj σ.n) σ') (l.take 12) 200 none [] Bv (Nat.lt_of_le_of_lt (List.length_take_le _ _) (by decide)) (Nat.le_trans (List.length_take_le _ _) (by decide))).trans ?_
 have e5:rv (((l.take 12).map λ x=>PV.int (x.fmod 5040)).reverse++[])=((l.take 12).map λ x=>x.fmod 5040).map PV.int:=by
  rw [List.append_nil,show rv _=_ from Ad5 _ [],List.append_nil,List.reverse_reverse,List.map_map];rfl
 rw [e5]
 refine (Awh (σ:=PS.mk (σ.n+1) t1) p1.1 _).trans ?_
 refine (e2 (λ σ'=>Aif σ.n [245366882] [.int 0] σ' λ σ'=>k (.obj σ.n) σ')).trans ?_
 refine (Awh (σ:=PS.mk (σ.n+1) t2) p2.1 _).trans ?_
 exact e3 (λ σ'=>k (.obj σ.n) σ')
def Aog (ρ:Ax) (k:Ax->Bool):Bool:=@List.rec _ (λ Z=>Bool) (k []) (λ Z r Z=>k (none::r)) ρ
theorem A07 {C:Prop} {ρ:Ax} {k:Ax->Bool} (h:Aog ρ k=true) (H:∀ ρ',k ρ'=true->(∀ i p,Dg ρ' i=some p->Dg ρ i=some p)->C):C:=by
 cases ρ with
 | nil=>exact H [] h λ Z Z q=>q
 | cons x r=>
  refine H (none::r) h λ i p q=>?_
  cases i with
  | zero=>exact nomatch q
  | succ i=>exact q
theorem As.less {ks:List (Str×NameKind)} {xs:List Str} {env:Env} {ρ ρ':Ax} {J:Aj} {h:Heap} (x:As ks xs env ρ J h) (hm:∀ i p,Dg ρ' i=some p->Dg ρ i=some p):As ks xs env ρ' J h:=
 {x with
  at_:=x.at_.imp λ m q=>⟨q.1,λ i y e l p r=>q.2 i y e l p (hm i p r)⟩
  cell:=λ i y e l=>(x.cell i y e l).imp λ c q=>q.imp λ v q=>⟨q.1,q.2.1,λ p r=>q.2.2 p (hm i p r)⟩}
def Ayd (k:List PV->Bool) (p:PV):Bool:=vC false F1 F1 F1 F1 k F2 F1 F1 p
theorem A12 {k:List PV->Bool} {p:PV} (h:Ayd k p=true):∃ l,p=.lst l/\k l=true:=by
 cases p<;>first|exact ff h|exact ⟨_,rfl,h⟩
def Aqg:C0:=λ ρ σ kn Z=>oC (λ p=>Ayd (λ l=>bC false (bC false (Am (.deck 0) σ λ i σ=>Ge ρ 1 (.obj i) λ ρ=>Aog ρ λ ρ=>kn ρ σ) (Nat.ble (len l) 1000)) (Fd 2 l)) p) (Dg ρ 0)
theorem Aff:∀ {l:List PV},Fd 2 l=true->∃ xs:List Int,l=xs.map .int
 | [],_=>⟨[],rfl⟩
 | p::l,h=>by
  refine Bs (b:=Nat.beq p.kd 2) (t:=Fd 2 l) h λ h1 h=>?_
  obtain ⟨xs,rfl⟩:=Aff h
  cases p<;>first|exact ff h1|exact ⟨_::xs,rfl⟩
def Ait:CS:=Br 1 mkE
theorem Apt {l:List Int} {ρ:Ax} {σ:PS} (h:Dg ρ 0=some (.lst (l.map .int))) (hz:l.length≤1000):∃ cs:List Int,cs.length≤1000/\∃ t',Put σ.t t' σ.n (.dict (F4 cs 0) true)/\∀ kn kr,Ait.f ρ σ kn kr=kn (Aar ρ 1 (some (.obj σ.n))) ⟨σ.n+1,t'⟩:=by
 obtain ⟨cs,hc,t',p',run⟩:=Ayg (σ:=σ) h hz
 refine ⟨cs,hc,t',p',λ kn kr=>?_⟩
 have e0:Ait.f ρ σ kn kr=mkE.f ρ σ (λ p σ=>Ge ρ 1 p λ ρ=>kn ρ σ):=by kernel_rfl
 exact e0.trans ((run (λ p σ=>Ge ρ 1 p λ ρ=>kn ρ σ)).trans (Pl ρ 1 λ ρ=>kn ρ ⟨σ.n+1,t'⟩))
open Classical in
theorem Apg:OKS Ait.n Ait.ck Aqg:=λ B d hK hd s0 st h A s env ρ J σ hR hE hS hO kn kr Q E e hN hT=>by
 unfold Aqg at e
 cases hg:Dg ρ 0 with
 | none=>rw [hg] at e;exact ff e
 | some p=>
  rw [hg] at e
  obtain ⟨l,rfl,e⟩:=A12 e
  have e:bC false (bC false (Am (.deck 0) σ λ i σ=>Ge ρ 1 (.obj i) λ ρ=>Aog ρ λ ρ=>kn ρ σ) (Nat.ble (len l) 1000)) (Fd 2 l)=true:=e
  refine Bs (b:=Fd 2 l) (t:=bC false (Am (.deck 0) σ λ i σ=>Ge ρ 1 (.obj i) λ ρ=>Aog ρ λ ρ=>kn ρ σ) (Nat.ble (len l) 1000)) e λ hk e4=>?_
  refine Bs (b:=Nat.ble (len l) 1000) (t:=Am (.deck 0) σ λ i σ=>Ge ρ 1 (.obj i) λ ρ=>Aog ρ λ ρ=>kn ρ σ) e4 λ hz e5=>?_
  obtain ⟨xs,rfl⟩:=Aff hk
  have hz:xs.length≤1000:=by have:=Nat.le_of_ble_eq_true hz;rwa [By,List.length_map] at this
  obtain ⟨cs,hc,t',p',run⟩:=Apt (σ:=σ) hg hz
  refine Dy e5 λ t3 p3 e6=>?_
  have e:=(Pl ρ 1 _).symm.trans e6
  refine Ait.ok B d hK hd s0 st h A s env ρ J σ hR hE hS hO (λ ρ' σ'=>decide (ρ'=Aar ρ 1 (some (.obj σ.n))/\σ'=⟨σ.n+1,t'⟩)) (λ Z Z=>false) Q E ((run _ _).trans (decide_eq_true ⟨rfl,rfl⟩)) (λ s' J' ρ' σ' e2 x hE'=>?_) λ v s' J' p σ' e=>ff e
  obtain ⟨rfl,rfl⟩:=of_decide_eq_true e2
  refine A07 e λ ρ2 e hm=>hN s' J' ρ2 _ e (x.conv (σ2:=⟨σ.n+1,t3⟩) rfl λ j o' r'=>?_) (hE'.less hm)
  by_cases hj:j=σ.n
  ·subst hj
   rw [show gT (PS.mk (σ.n+1) t').t σ.n=_ from p'.1] at r'
   rw [show gT (PS.mk (σ.n+1) t3).t σ.n=_ from p3.1]
   obtain ⟨c,_,es,n,d,_,q⟩:=r'
   exact ⟨c,es,n,d,cs,hc,q⟩
  ·rw [show gT (PS.mk (σ.n+1) t').t j=_ from p'.2 j hj] at r'
   rw [show gT (PS.mk (σ.n+1) t3).t j=_ from p3.2 j hj]
   exact r'
def A1u:CS:=⟨Aqg,Ait.n,Ait.ck,Apg⟩
end
section
def A0c (k:PV->Bool) (p:PV):Bool:=vIS F1 (λ n=>bC false (Gw n λ v=>k (.int (Int.ofNat v))) (Nat.blt 0 n)) p
theorem A29 {C:Prop} {k:PV->Bool} {p:PV} (h:A0c k p=true) (H:∀ n,p=.sym n->(∀ v,v<n->k (.int (Int.ofNat v))=true)->C):C:=by
 cases p with
 | sym n=>exact Bs (b:=Nat.blt 0 n) (t:=Gw n λ v=>k (.int (Int.ofNat v))) h λ Z e=>H n rfl (Akc e)
 | _=>exact ff h
def Awc (s:Sc) (i:Nat):Bool:=@Option.rec _ (λ Z=>Bool) false (λ x=>s.ks.lookup x==some .local) s.xs[i]?
theorem As.told {ks:List (Str×NameKind)} {xs:List Str} {env:Env} {ρ:Ax} {J:Aj} {h:Heap} {i n:Nat} {x:Str} (hE:As ks xs env ρ J h) (hg:Dg ρ i=some (.sym n)) (hx:xs[i]?=some x) (hk:ks.lookup x=some .local):∃ v,v<n/\As ks xs env (Aar ρ i (some (.int (Int.ofNat v)))) J h:=by
 obtain ⟨m,hN,hm⟩:=hE.at_
 obtain ⟨u,hu,v,t,hv,e⟩:=hm i x hx hk _ hg
 refine ⟨v,hv,{hE with at_:=⟨m,hN,λ j z hz hl=>?_⟩,cell:=λ j z hz hc=>?_}⟩
 ·by_cases hj:j=i
  ·subst hj
   cases Option.some.inj (hz.symm.trans hx)
   exact λ p q=>(Ia ρ j).elim (λ w=>⟨u,hu,Option.some.inj (w.symm.trans q)▸⟨t,e⟩⟩) λ w=>ns (w.symm.trans q)
  ·rw [Ci ρ i j hj]
   exact hm j z hz hl
 ·have hj:j≠i:=λ q=>by
   subst q
   cases Option.some.inj (hz.symm.trans hx)
   rw [hk] at hc
   exact hc.elim (λ w=>nomatch w) λ w=>nomatch w
  rw [Ci ρ i j hj]
  exact hE.cell j z hz hc
def A54 (i:Nat) (b:Np):Np:=⟨λ ρ σ kn kr=>oC (λ p=>A0c (λ v=>Ge ρ i v λ ρ=>b.f ρ σ kn kr) p) (Dg ρ i),b.n,λ s l=>Awc s i&&b.ck s l,λ B d hK hd s e c A s1 env ρ J σ hR hE hS hO kn kr Q E e1 hN hT=>by
 obtain ⟨c1,c2⟩:=Bool.and_eq_true_iff.mp c
 refine oC_ e1 λ p hg e2=>A29 e2 λ n hp H=>?_
 subst hp
 unfold Awc at c1
 cases hx:s.xs[i]? with
 | none=>rw [hx] at c1;exact ff c1
 | some x=>
  rw [hx] at c1
  obtain ⟨v,hv,hE'⟩:=hE.told hg hx (eq_of_beq c1)
  exact b.ok B d hK hd s e c2 A s1 env _ J σ hR hE' hS hO kn kr Q E ((Pl ρ i _).symm.trans (H v hv)) hN hT⟩
end
section
def shp (k1:PV->Bool) (k2:PV->PV->Bool) (k3:PV->PV->PV->Bool) (p:PV):Bool:=Lo (λ l=>lC false (λ a l=>lC (k1 a) (λ b l=>lC (k2 a b) (λ c l=>lC (k3 a b c) F2 l) l) l) l) p
theorem Azz {C:Prop} {k1:PV->Bool} {k2:PV->PV->Bool} {k3:PV->PV->PV->Bool} {p:PV} (h:shp k1 k2 k3 p=true) (h1:∀ a,p=.tup [a]->k1 a=true->C) (h2:∀ a b,p=.tup [a,b]->k2 a b=true->C) (h3:∀ a b c,p=.tup [a,b,c]->k3 a b c=true->C):C:=by
 obtain ⟨l,rfl,h⟩:=Acf h
 cases l with
 | nil=>exact ff h
 | cons a l=>cases l with
  | nil=>exact h1 a rfl h
  | cons b l=>cases l with
   | nil=>exact h2 a b rfl h
   | cons c l=>cases l with
    | nil=>exact h3 a b c rfl h
    | cons d l=>exact ff h
def wk {a k:Nat} (c:Bh a k) (G:Fn) (h:∀ ps σ κ,ps.length=k->G ps σ κ=true->c.F ps σ κ=true):Bh a k:=⟨G,c.n,λ B hK=>Dz (c.ok B hK) h⟩
def isV (s:Nat):Bool:=Nat.beq (Aqh s) 64
def A5o:Fn:=λ ps σ k=>on1 ps (shp (El λ s=>k (.bool (isV s)) σ) (λ Z Z=>k (.bool false) σ) λ Z Z Z=>k (.bool false) σ)
def Ow:Bh 98 1:=wk Da A5o λ ps σ κ Z e=>Oc e λ p hp e=>hp▸Azz e (λ a hp e=>by
  obtain ⟨s,rfl,e⟩:=Pz e
  subst hp
  have q:Da.F [.tup [.str s]] σ κ=κ (.bool (isV s)) σ:=by kernel_rfl
  exact q.trans e) (λ a b hp e=>by
  subst hp
  have q:Da.F [.tup [a,b]] σ κ=κ (.bool false) σ:=by kernel_rfl
  exact q.trans e) λ a b c hp e=>by
  subst hp
  have q:Da.F [.tup [a,b,c]] σ κ=κ (.bool false) σ:=by kernel_rfl
  exact q.trans e
def getD (q k z:PV) (σ:PS) (κ:PV->Bool):Bool:=kD q σ (Apm k σ (λ Z kvs Z=>Ih k kvs (κ z) κ) q)
def A5n (f:Fn):Fn:=λ ps σ k=>on2 ps λ p q=>shp (El λ s=>bC (k (.tup [.str s]) σ) (getD q (.str s) p σ λ v=>k v σ) (isV s))
 (λ a x=>f [x,q] σ λ x σ=>k (.tup [a,x]) σ) (λ a x y=>f [x,q] σ λ x σ=>f [y,q] σ λ y σ=>k (.tup [a,x,y]) σ) p
def Nq (f:Bh 238 2):Bh 238 2:=Ce 2 0 ["pattern","table"] (Ag (Bz (V4 (Ai Ow (kC (Aa 0) kN))) (Ag (Ay (Vz (Aa 1) (kC (Ak (Aa 0) (Al 0)) (kC (Aa 0) kN)))) At) At) (Ag (Ay (Cj (Ad (kC (Ak (Aa 0) (Al 0)) kN)) (Em (kC (B9 (Wp 1 [1] (iK (Dn (Aa 0) (Al 1))) (gN 0) (Ai f (kC (Aa 0) (kC (Aa 1) kN))))) kN)))) At)) rfl (λ Z=>Nr λ Z Z=>rfl) (by kernel_rfl)
def Ame (f:Bh 238 2):Bh 238 2:=wk (Nq f) (A5n f.F) λ ps σ κ Z e=>Yr e λ p q hp e=>hp▸Azz e (λ a hp e=>by
  obtain ⟨s,rfl,e⟩:=Pz e
  subst hp
  have q:(Nq f).F [.tup [.str s],q] σ κ=bC (κ (.tup [.str s]) σ) (getD q (.str s) (.tup [.str s]) σ λ v=>κ v σ) (isV s):=by kernel_rfl
  exact q.trans e) (λ a b hp e=>by
  subst hp
  have q:(Nq f).F [.tup [a,b],q] σ κ=f.F [b,q] σ λ x σ=>κ (.tup [a,x]) σ:=by kernel_rfl
  exact q.trans e) λ a b c hp e=>by
  subst hp
  have q:(Nq f).F [.tup [a,b,c],q] σ κ=f.F [b,q] σ λ x σ=>f.F [c,q] σ λ y σ=>κ (.tup [a,x,y]) σ:=by kernel_rfl
  exact q.trans e
def Qu:=Apk Ame
end
section
def Ad2 (f:Nat):PV->List PV->List PV->(List PV->Bool)->Bool:=@Nat.rec (λ Z=>PV->List PV->List PV->(List PV->Bool)->Bool) (λ Z Z Z Z=>false)
 (λ Z ih t pre rest k=>shp (El λ Z=>k (.tup [.tup pre,t]::rest)) (λ a x=>El (λ Z=>Oa pre [.int 0] λ p0=>ih x p0 rest λ r=>k (.tup [.tup pre,t]::r)) a)
  (λ a x y=>El (λ Z=>Oa pre [.int 1] λ p1=>ih y p1 rest λ r=>Oa pre [.int 0] λ p0=>ih x p0 r λ r=>k (.tup [.tup pre,t]::r)) a) t) f
def Du (pre:List PV) (z:List PV×PV):PV:=.tup [.tup (pre++z.1),z.2]
def kid (j:Int) (z:List PV×PV):List PV×PV:=(.int j::z.1,z.2)
theorem Dv (pre:List PV) (j:Int) (l:List (List PV×PV)):(l.map (kid j)).map (Du pre)=l.map (Du (pre++[.int j])):=by
 rw [List.map_map];exact List.map_congr_left λ z Z=>by show PV.tup [.tup (pre++(.int j::z.1)),z.2]=PV.tup [.tup (pre++[.int j]++z.1),z.2];rw [List.append_assoc];rfl
inductive Pt:Nat->PV->List (List PV×PV)->Prop
 | one (n a):Pt (n+1) (.tup [.str a]) [([],.tup [.str a])]
 | two {n x l} (a):Pt n x l->Pt (n+1) (.tup [.str a,x]) (([],.tup [.str a,x])::l.map (kid 0))
 | three {n x y l l'} (a):Pt n x l->Pt n y l'->Pt (n+1) (.tup [.str a,x,y]) (([],.tup [.str a,x,y])::(l.map (kid 0)++l'.map (kid 1)))
theorem Pt.len {n:Nat} {t:PV} {l:List (List PV×PV)} (h:Pt n t l):∀ z∈l,z.1.length≤n:=by
 induction h with
 | one n a=>intro z hz;cases List.eq_of_mem_singleton hz;exact Nat.zero_le _
 | two a _ ih=>
  intro z hz
  rcases List.mem_cons.mp hz with rfl|hz
  ·exact Nat.zero_le _
  ·obtain ⟨w,hw,rfl⟩:=List.mem_map.mp hz;exact Nat.succ_le_succ (ih w hw)
 | three a _ _ ih ih'=>
  intro z hz
  rcases List.mem_cons.mp hz with rfl|hz
  ·exact Nat.zero_le _
  ·rcases List.mem_append.mp hz with hz|hz
   ·obtain ⟨w,hw,rfl⟩:=List.mem_map.mp hz;exact Nat.succ_le_succ (ih w hw)
   ·obtain ⟨w,hw,rfl⟩:=List.mem_map.mp hz;exact Nat.succ_le_succ (ih' w hw)
theorem Pt.run {n:Nat} {t:PV} {l:List (List PV×PV)} (h:Pt n t l):∀ pre rest k,Ad2 n t pre rest k=k (l.map (Du pre)++rest):=by
 induction h with
 | one n a=>intro pre rest k;show k (.tup [.tup pre,.tup [.str a]]::rest)=k ([Du pre ([],.tup [.str a])]++rest);unfold Du;rw [List.append_nil];rfl
 | @two n x l a _ ih=>
  intro pre rest k
  refine (I6 [.int 0] pre (λ p0=>Ad2 n x p0 rest λ r=>k (.tup [.tup pre,.tup [.str a,x]]::r))).trans ((ih _ _ _).trans ?_)
  rw [List.map_cons,Dv];unfold Du;rw [List.append_nil];rfl
 | @three n x y l l' a _ _ ih ih'=>
  intro pre rest k
  refine (I6 [.int 1] pre (λ p1=>Ad2 n y p1 rest λ r=>Oa pre [.int 0] λ p0=>Ad2 n x p0 r λ r=>k (.tup [.tup pre,.tup [.str a,x,y]]::r))).trans ((ih' _ _ _).trans ?_)
  refine (I6 [.int 0] pre (λ p0=>Ad2 n x p0 _ λ r=>k (.tup [.tup pre,.tup [.str a,x,y]]::r))).trans ((ih _ _ _).trans ?_)
  rw [List.map_cons,List.map_append,Dv,Dv,List.cons_append,List.append_assoc];unfold Du;rw [List.append_nil]
theorem Awl:∀ (n:Nat) (t:PV) (pre rest:List PV) (k:List PV->Bool),Ad2 n t pre rest k=true->∃ l,Pt n t l:=λ n=>by
 induction n with
 | zero=>exact λ t pre rest k h=>ff h
 | succ n ih=>
  intro t pre rest k h
  refine Azz (p:=t) h (λ a e h=>?_) (λ a x e h=>?_) λ a x y e h=>?_
  ·obtain ⟨s,rfl,h⟩:=Pz h
   exact e▸⟨_,.one n s⟩
  ·obtain ⟨s,rfl,h2⟩:=Pz h
   subst e
   obtain ⟨l,p⟩:=ih x _ _ _ ((I6 [.int 0] pre _).symm.trans h2)
   exact ⟨_,.two s p⟩
  ·obtain ⟨s,rfl,h2⟩:=Pz h
   subst e
   have h3:=(I6 [.int 1] pre _).symm.trans h2
   obtain ⟨l',p'⟩:=ih y _ _ _ h3
   have h4:=(p'.run _ _ _).symm.trans h3
   have h5:=(I6 [.int 0] pre _).symm.trans h4
   obtain ⟨l,p⟩:=ih x _ _ _ h5
   exact ⟨_,.three s p p'⟩
theorem Pt.clo {n:Nat} {t:PV} {l:List (List PV×PV)} (h:Pt n t l):clo t:=by
 induction h with
 | one n a=>exact ⟨trivial,trivial⟩
 | two a _ ih=>exact ⟨trivial,ih,trivial⟩
 | three a _ _ ih ih'=>exact ⟨trivial,ih,ih',trivial⟩
def A06 (l:List (List PV×PV)):Prop:=∀ z∈l,Aid z.1/\clo z.2
theorem Pt.cloP {n:Nat} {t:PV} {l:List (List PV×PV)} (h:Pt n t l):A06 l:=by
 induction h with
 | one n a=>intro z hz;cases List.eq_of_mem_singleton hz;exact ⟨trivial,trivial,trivial⟩
 | two a p ih=>
  intro z hz
  rcases List.mem_cons.mp hz with rfl|hz
  ·exact ⟨trivial,(Pt.two a p).clo⟩
  ·obtain ⟨w,hw,rfl⟩:=List.mem_map.mp hz;exact ⟨⟨trivial,(ih w hw).1⟩,(ih w hw).2⟩
 | three a p p' ih ih'=>
  intro z hz
  rcases List.mem_cons.mp hz with rfl|hz
  ·exact ⟨trivial,(Pt.three a p p').clo⟩
  ·rcases List.mem_append.mp hz with hz|hz
   ·obtain ⟨w,hw,rfl⟩:=List.mem_map.mp hz;exact ⟨⟨trivial,(ih w hw).1⟩,(ih w hw).2⟩
   ·obtain ⟨w,hw,rfl⟩:=List.mem_map.mp hz;exact ⟨⟨trivial,(ih' w hw).1⟩,(ih' w hw).2⟩
theorem Akh:∀ {l:List (List PV×PV)},A06 l->Aid (l.map (Du []))
 | [],_=>trivial
 | z::l,h=>⟨⟨(h z (zzf ..)).1,(h z (zzf ..)).2,trivial⟩,Akh λ w hw=>h w (zze _ hw)⟩
def shV (h1:PV->List PV) (h2:PV->PV->List PV) (h3:PV->PV->PV->List PV) (p:PV):List PV:=@PV.rec (λ Z=>List PV) (λ Z=>Unit) [] (λ Z=>[]) (λ Z=>[]) (λ Z=>[])
 (λ l Z=>@List.rec PV (λ Z=>List PV) [] (λ a r Z=>@List.rec PV (λ Z=>List PV) (h1 a) (λ x r Z=>@List.rec PV (λ Z=>List PV) (h2 a x) (λ y Z Z=>h3 a x y) r) r) l)
 (λ Z Z=>[]) (λ Z Z=>[]) (λ Z=>[]) (λ Z=>[]) (λ Z=>[]) () (λ Z Z Z Z=>()) p
def apV (l m:List PV):List PV:=@List.rec PV (λ Z=>List PV) m (λ a Z ih=>a::ih) l
theorem Ac5 (m:List PV):∀ l,apV l m=l++m
 | []=>rfl
 | a::l=>congrArg (List.cons a) (Ac5 m l)
def Am8 (f:Nat):PV->List PV->List PV->List PV:=@Nat.rec (λ Z=>PV->List PV->List PV->List PV) (λ Z Z Z=>[])
 (λ Z ih t pre rest=>.tup [.tup pre,t]::shV (λ Z=>rest) (λ Z x=>ih x (apV pre [.int 0]) rest) (λ Z x y=>ih x (apV pre [.int 0]) (ih y (apV pre [.int 1]) rest)) t) f
theorem Pt.runV {n:Nat} {t:PV} {l:List (List PV×PV)} (h:Pt n t l):∀ pre rest,Am8 n t pre rest=l.map (Du pre)++rest:=by
 induction h with
 | one n a=>intro pre rest;show PV.tup [.tup pre,.tup [.str a]]::rest=[Du pre ([],.tup [.str a])]++rest;unfold Du;rw [List.append_nil];rfl
 | @two n x l a _ ih=>
  intro pre rest
  show PV.tup [.tup pre,.tup [.str a,x]]::Am8 n x (apV pre [.int 0]) rest=_
  rw [ih,Ac5,List.map_cons,Dv];unfold Du;rw [List.append_nil];rfl
 | @three n x y l l' a _ _ ih ih'=>
  intro pre rest
  show PV.tup [.tup pre,.tup [.str a,x,y]]::Am8 n x (apV pre [.int 0]) (Am8 n y (apV pre [.int 1]) rest)=_
  rw [ih,ih',Ac5,Ac5,List.map_cons,List.map_append,Dv,Dv,List.cons_append,List.append_assoc];unfold Du;rw [List.append_nil]
def Awm (n:Nat) (t:PV):Bool:=Ad2 n t [] [] λ l=>Nat.blt (len l) 200
def A2l (n:Nat) (t:PV) (σ:PS) (k:PV->PS->Bool):Bool:=bC false (k (.lst (Am8 n t [] [])) σ) (Awm n t)
theorem A2m {n:Nat} {t:PV} {σ:PS} {k:PV->PS->Bool} (e:A2l n t σ k=true):(Ad2 n t [] [] λ l=>bC false (k (.lst l) σ) (Nat.blt (len l) 200))=true:=
 Bs (b:=Awm n t) (t:=k (.lst (Am8 n t [] [])) σ) e λ h e=>(Awl n t [] [] (λ l=>Nat.blt (len l) 200) h).elim λ l q=>by
  rw [q.runV,List.append_nil] at e
  have h2:=(q.run [] [] λ l=>Nat.blt (len l) 200).symm.trans h
  refine (q.run [] [] _).trans ?_
  rw [List.append_nil] at h2 ⊢
  exact (Vw h2).trans e
end
section
def Atk:CG:=Lq (Cm (gN 0) (Cm (gN 1) Lp))
def Ati:CE:=Ad (kC (Cj (Ad (kC (Aa 2) kN)) (Aa 0)) (kC (Aa 1) kN))
theorem Agq {σ:PS} {κ:List PV->PS->Bool} (j:Int):∀ (l:List (List PV×PV)) (n:Nat) (o1 o2:Option PV) (acc:List PV) (b:Nat),(∀ z∈l,z.1.length≤1000)->l.length<n->l.length≤b ->
  Bl Atk.f (Be Ati.f) n (.fix (l.map (Du []))) [o1,o2,some (.int j)] acc b σ (λ Z acc Z σ=>κ acc σ)=κ ((l.map (Du [.int j])).reverse++acc) σ
 | [],n+1,_,_,acc,b,_,_,_=>rfl
 | z::l,n+1,o1,o2,acc,b+1,hz,hn,hb=>by
  have hs:An z.1=true:=Mz (hz z (zzf ..))
  have e:Bl Atk.f (Be Ati.f) (n+1) (.fix (Du [] z::l.map (Du []))) [o1,o2,some (.int j)] acc (b+1) σ (λ Z acc Z σ=>κ acc σ)=bC false (Bl Atk.f (Be Ati.f) n (.fix (l.map (Du []))) [some (.tup z.1),some z.2,some (.int j)] (.tup [.tup (.int j::z.1),z.2]::acc) b σ (λ Z acc Z σ=>κ acc σ)) (An z.1):=by kernel_rfl
  refine e.trans ((Vw hs).trans ((Agq j l n _ _ _ b (λ w hw=>hz w (zze _ hw)) (Nat.lt_of_succ_lt_succ hn) (Nat.le_of_succ_le_succ hb)).trans ?_))
  rw [List.map_cons,List.reverse_cons,List.append_assoc];rfl
def Atj (j:Int) (p:PV) (σ:PS) (κ:List PV->PS->Bool):Bool:=Bn p σ λ it σ=>Bl Atk.f (Be Ati.f) 200 it [none,none,some (.int j)] [] Bv σ λ Z acc Z σ=>κ acc σ
theorem Yx {σ:PS} {κ:List PV->PS->Bool} {j:Int} {l:List (List PV×PV)} (hz:∀ z∈l,z.1.length≤1000) (hl:l.length<200):Atj j (.lst (l.map (Du []))) σ κ=κ (l.map (Du [.int j])).reverse σ:=
 (Agq j l 200 none none [] Bv hz hl (Nat.le_trans (Nat.le_of_lt hl) (by decide))).trans (by rw [List.append_nil])
def Aiu (n:Nat):Fn:=λ ps σ k=>on1 ps λ t=>Ad2 n t [] [] λ l=>bC false (k (.lst l) σ) (Nat.blt (len l) 200)
theorem Alk {i:Nat} {σ:PS} {l:List PV} (h:gT σ.t i=.list l) (k:List PV->Bool):Qm i σ k=k l:=by unfold Qm;rw [h]
theorem Adj {i:Nat} {σ:PS} {l l':List PV} {k:PV->PS->Bool} (h:gT σ.t i=.list l) (h1:l.length≤1000) (h2:l'.length≤1000):∃ t',Put σ.t t' i (.list (l++l'))/\∀ k:PV->PS->Bool,Gm [.obj i,.lst l'] σ k=k .none ⟨σ.n,t'⟩:=by
 obtain ⟨t',p,e⟩:=Hu i (.list (l++l')) σ
 refine ⟨t',p,λ k=>?_⟩
 refine (Alk h _).trans ?_
 refine (Vw (Mz h1)).trans ((Vw (Mz h2)).trans ((I6 l' l (λ l=>Cb i (.list l) σ (k .none))).trans (e _)))
theorem Ai9 (l:List PV):rv l.reverse=l:=by rw [show rv _=_ from Ad5 _ [],List.append_nil,List.reverse_reverse]
section
variable {f:Bh 108 1} {σ:PS} {n:Nat}
theorem A50 {a:PV} {κ:PV->PS->Bool}:(Fy f).F [.tup [a]] σ κ=Am (.list [.tup [.tup [],.tup [a]]]) σ λ i σ=>κ (.obj i) σ:=by kernel_rfl
theorem A51 {a x:PV} {κ:PV->PS->Bool}:(Fy f).F [.tup [a,x]] σ κ=Am (.list [.tup [.tup [],.tup [a,x]]]) σ λ i σ=>kL (.obj i) σ (f.F [x] σ λ p σ=>Atj 0 p σ λ acc σ=>Gm [.obj i,.lst (rv acc)] σ λ Z σ=>κ (.obj i) σ):=by kernel_rfl
theorem A52 {a x y:PV} {κ:PV->PS->Bool}:(Fy f).F [.tup [a,x,y]] σ κ=Am (.list [.tup [.tup [],.tup [a,x,y]]]) σ λ i σ=>kL (.obj i) σ (f.F [x] σ λ p σ=>Atj 0 p σ λ acc σ=>Gm [.obj i,.lst (rv acc)] σ λ Z σ=>kL (.obj i) σ (f.F [y] σ λ p σ=>Atj 1 p σ λ acc σ=>Gm [.obj i,.lst (rv acc)] σ λ Z σ=>κ (.obj i) σ)):=by kernel_rfl
open Classical in
theorem Aij {σ σ':PS} {l:List PV} {i:Nat} (hc:Aid l) (hi:σ.n≤i) (hg:gT σ'.t i=.list l) (hs:∀ j,j<σ.n->gT σ'.t j=gT σ.t j):Asg σ l (.obj i) σ'=true:=by
 unfold Asg;exact decide_eq_true ⟨i,rfl,hc,hi,hg,hs⟩
theorem Ad3 {x:PV} {l:List (List PV×PV)} {κ:PV->PS->Bool} (h:Pt n x l) (hl:l.length<200):Aiu n [x] σ κ=κ (.lst (l.map (Du []))) σ:=by
 refine (h.run [] [] (λ l=>bC false (κ (.lst l) σ) (Nat.blt (len l) 200))).trans ?_
 rw [List.append_nil]
 exact Vw (Nat.ble_eq_true_of_le (by rw [By,List.length_map];exact hl))
theorem A2n (hf:∀ x σ κ,f.F [x] σ κ=Aiu n [x] σ κ) (hn:n≤900) {t:PV} {l:List (List PV×PV)} (h:Pt (n+1) t l) (hl:l.length<200):(Fy f).F [t] σ (Asg σ (l.map (Du [])))=true:=by
 have hc:=Akh h.cloP
 generalize hL:l.map (Du [])=L at hc ⊢
 cases h with
 | one n a=>
  obtain ⟨t1,p1,e1⟩:=Io (.list [.tup [.tup [],.tup [.str a]]]) σ
  refine A50.trans ((e1 _).trans (Aij hc (Nat.le_refl _) (p1.1.trans ?_) λ j hj=>p1.2 j (Nat.ne_of_lt hj)))
  rw [<- hL];rfl
 | @two _ x l1 a p=>
  have hl1:l1.length<200:=by rw [List.length_cons,List.length_map] at hl;omega
  obtain ⟨t1,p1,e1⟩:=Io (.list [.tup [.tup [],.tup [.str a,x]]]) σ
  obtain ⟨t2,p2,e2⟩:=Adj (i:=σ.n) (σ:=⟨σ.n+1,t1⟩) (l:=[.tup [.tup [],.tup [.str a,x]]]) (l':=l1.map (Du [.int 0])) (k:=λ Z Z=>true) p1.1 (by show 1≤1000;decide) (by rw [List.length_map];omega)
  have hz:∀ z∈l1,z.1.length≤1000:=λ z hz=>Nat.le_trans (p.len z hz) (by omega)
  refine A51.trans ((e1 _).trans ((Alk (σ:=⟨σ.n+1,t1⟩) p1.1 _).trans ((hf _ _ _).trans ((Ad3 p hl1).trans ((Yx hz hl1).trans ?_)))))
  rw [Ai9]
  refine (e2 _).trans (Aij hc (Nat.le_refl _) (p2.1.trans ?_) λ j hj=>(p2.2 j (Nat.ne_of_lt hj)).trans (p1.2 j (Nat.ne_of_lt hj)))
  rw [<- hL,List.map_cons,Dv];rfl
 | @three _ x y l1 l2 a p q=>
  have hll:l1.length+l2.length<200:=by rw [List.length_cons,List.length_append,List.length_map,List.length_map] at hl;omega
  have hl1:l1.length<200:=by omega
  have hl2:l2.length<200:=by omega
  obtain ⟨t1,p1,e1⟩:=Io (.list [.tup [.tup [],.tup [.str a,x,y]]]) σ
  obtain ⟨t2,p2,e2⟩:=Adj (i:=σ.n) (σ:=⟨σ.n+1,t1⟩) (l:=[.tup [.tup [],.tup [.str a,x,y]]]) (l':=l1.map (Du [.int 0])) (k:=λ Z Z=>true) p1.1 (by show 1≤1000;decide) (by rw [List.length_map];omega)
  obtain ⟨t3,p3,e3⟩:=Adj (i:=σ.n) (σ:=⟨σ.n+1,t2⟩) (l:=[.tup [.tup [],.tup [.str a,x,y]]]++l1.map (Du [.int 0])) (l':=l2.map (Du [.int 1])) (k:=λ Z Z=>true) p2.1 (by rw [List.length_append,List.length_map];show 1+l1.length≤1000;omega) (by rw [List.length_map];omega)
  have hz:∀ z∈l1,z.1.length≤1000:=λ z hz=>Nat.le_trans (p.len z hz) (by omega)
  have hz2:∀ z∈l2,z.1.length≤1000:=λ z hz=>Nat.le_trans (q.len z hz) (by omega)
  refine A52.trans ((e1 _).trans ((Alk (σ:=⟨σ.n+1,t1⟩) p1.1 _).trans ((hf _ _ _).trans ((Ad3 p hl1).trans ((Yx hz hl1).trans ?_)))))
  rw [Ai9]
  refine (e2 _).trans ((Alk (σ:=⟨σ.n+1,t2⟩) p2.1 _).trans ((hf _ _ _).trans ((Ad3 q hl2).trans ((Yx hz2 hl2).trans ?_))))
  rw [Ai9]
  refine (e3 _).trans (Aij hc (Nat.le_refl _) (p3.1.trans ?_) λ j hj=>(p3.2 j (Nat.ne_of_lt hj)).trans ((p2.2 j (Nat.ne_of_lt hj)).trans (p1.2 j (Nat.ne_of_lt hj))))
  rw [<- hL,List.map_cons,List.map_append,Dv,Dv];rfl
end
def An0 (n:Nat) (f:Bh 108 1) (hf:∀ x σ κ,f.F [x] σ κ=Aiu n [x] σ κ) (hn:n≤900):Bh 108 1:=⟨Aiu (n+1),(Fy f).n,λ B hK=>Ajk ((Fy f).ok B hK) λ ps σ κ e=>Oc e λ t hp e=>by
 obtain ⟨l,p⟩:=Awl _ _ _ _ _ e
 have e2:=(p.run _ _ _).symm.trans e
 rw [List.append_nil] at e2
 refine Bs (b:=Nat.blt (len (l.map (Du []))) 200) (t:=κ (.lst (l.map (Du []))) σ) e2 λ hl e3=>⟨_,e3,hp▸A2n hf hn p ?_⟩
 have:=zzi hl
 rwa [By,List.length_map] at this⟩
structure PN (n:Nat) where
 c:Bh 108 1
 h:∀ x σ κ,c.F [x] σ κ=Aiu n [x] σ κ
def pn0:PN 0:=⟨kF0 108 1,λ x σ κ=>rfl⟩
def pnS (n:Nat) (p:PN n) (hn:n≤900):PN (n+1):=⟨An0 n p.c p.h hn,λ x σ κ=>rfl⟩
def pnN:∀ n,n≤900->PN n
 | 0,_=>pn0
 | n+1,h=>pnS n (pnN n (Nat.le_of_succ_le h)) (Nat.le_of_succ_le h)
def Ay0:PN 12:=pnN 12 (by decide)
def Al3:Bh 108 1:=⟨Aiu 12,Ay0.c.n,λ B hK A s J σ ps vs hR st r hk κ R e hQ=>Ay0.c.ok B hK A s J σ ps vs hR st r hk κ R (by
  have e2:Ay0.c.F ps σ κ=Aiu 12 ps σ κ:=by kernel_rfl
  exact e2.trans e) hQ⟩
end
section
abbrev OP:=Option PV
def wkE (a:CE) (g:EF) (h:∀ ρ σ k,g ρ σ k=true->a.f ρ σ k=true):CE:=⟨g,a.n,a.ck,λ B d hK hd s e c A s1 env ρ J σ hR hE hS k Q E e1 hQ=>a.ok B d hK hd s e c A s1 env ρ J σ hR hE hS k Q E (h ρ σ k e1) hQ⟩
def wkB (a:Np) (g:C0) (h:∀ ρ σ kn kr,g ρ σ kn kr=true->a.f ρ σ kn kr=true):Np:=⟨g,a.n,a.ck,λ B d hK hd s e c A s1 env ρ J σ hR hE hS hO kn kr Q E e1 hN hT=>a.ok B d hK hd s e c A s1 env ρ J σ hR hE hS hO kn kr Q E (h ρ σ kn kr e1) hN hT⟩
def ex1 (ρ:Ax) (k:OP->Ax->Bool):Bool:=@List.rec _ (λ Z=>Bool) false (λ o0 r Z=>k o0 r) ρ
def ex2 (ρ:Ax) (k:OP->OP->Ax->Bool):Bool:=@List.rec _ (λ Z=>Bool) false (λ o0 r Z=>@List.rec _ (λ Z=>Bool) false (λ o1 r Z=>k o0 o1 r) r) ρ
def ex3 (ρ:Ax) (k:OP->OP->OP->Ax->Bool):Bool:=@List.rec _ (λ Z=>Bool) false (λ o0 r Z=>@List.rec _ (λ Z=>Bool) false (λ o1 r Z=>@List.rec _ (λ Z=>Bool) false (λ o2 r Z=>k o0 o1 o2 r) r) r) ρ
def ex4 (ρ:Ax) (k:OP->OP->OP->OP->Ax->Bool):Bool:=@List.rec _ (λ Z=>Bool) false (λ o0 r Z=>@List.rec _ (λ Z=>Bool) false (λ o1 r Z=>@List.rec _ (λ Z=>Bool) false (λ o2 r Z=>@List.rec _ (λ Z=>Bool) false (λ o3 r Z=>k o0 o1 o2 o3 r) r) r) r) ρ
def ex5 (ρ:Ax) (k:OP->OP->OP->OP->OP->Ax->Bool):Bool:=@List.rec _ (λ Z=>Bool) false (λ o0 r Z=>@List.rec _ (λ Z=>Bool) false (λ o1 r Z=>@List.rec _ (λ Z=>Bool) false (λ o2 r Z=>@List.rec _ (λ Z=>Bool) false (λ o3 r Z=>@List.rec _ (λ Z=>Bool) false (λ o4 r Z=>k o0 o1 o2 o3 o4 r) r) r) r) r) ρ
def ex6 (ρ:Ax) (k:OP->OP->OP->OP->OP->OP->Ax->Bool):Bool:=@List.rec _ (λ Z=>Bool) false (λ o0 r Z=>@List.rec _ (λ Z=>Bool) false (λ o1 r Z=>@List.rec _ (λ Z=>Bool) false (λ o2 r Z=>@List.rec _ (λ Z=>Bool) false (λ o3 r Z=>@List.rec _ (λ Z=>Bool) false (λ o4 r Z=>@List.rec _ (λ Z=>Bool) false (λ o5 r Z=>k o0 o1 o2 o3 o4 o5 r) r) r) r) r) r) ρ
def ex7 (ρ:Ax) (k:OP->OP->OP->OP->OP->OP->OP->Ax->Bool):Bool:=@List.rec _ (λ Z=>Bool) false (λ o0 r Z=>@List.rec _ (λ Z=>Bool) false (λ o1 r Z=>@List.rec _ (λ Z=>Bool) false (λ o2 r Z=>@List.rec _ (λ Z=>Bool) false (λ o3 r Z=>@List.rec _ (λ Z=>Bool) false (λ o4 r Z=>@List.rec _ (λ Z=>Bool) false (λ o5 r Z=>@List.rec _ (λ Z=>Bool) false (λ o6 r Z=>k o0 o1 o2 o3 o4 o5 o6 r) r) r) r) r) r) r) ρ
def ex8 (ρ:Ax) (k:OP->OP->OP->OP->OP->OP->OP->OP->Ax->Bool):Bool:=@List.rec _ (λ Z=>Bool) false (λ o0 r Z=>@List.rec _ (λ Z=>Bool) false (λ o1 r Z=>@List.rec _ (λ Z=>Bool) false (λ o2 r Z=>@List.rec _ (λ Z=>Bool) false (λ o3 r Z=>@List.rec _ (λ Z=>Bool) false (λ o4 r Z=>@List.rec _ (λ Z=>Bool) false (λ o5 r Z=>@List.rec _ (λ Z=>Bool) false (λ o6 r Z=>@List.rec _ (λ Z=>Bool) false (λ o7 r Z=>k o0 o1 o2 o3 o4 o5 o6 o7 r) r) r) r) r) r) r) r) ρ
def ex9 (ρ:Ax) (k:OP->OP->OP->OP->OP->OP->OP->OP->OP->Ax->Bool):Bool:=@List.rec _ (λ Z=>Bool) false (λ o0 r Z=>@List.rec _ (λ Z=>Bool) false (λ o1 r Z=>@List.rec _ (λ Z=>Bool) false (λ o2 r Z=>@List.rec _ (λ Z=>Bool) false (λ o3 r Z=>@List.rec _ (λ Z=>Bool) false (λ o4 r Z=>@List.rec _ (λ Z=>Bool) false (λ o5 r Z=>@List.rec _ (λ Z=>Bool) false (λ o6 r Z=>@List.rec _ (λ Z=>Bool) false (λ o7 r Z=>@List.rec _ (λ Z=>Bool) false (λ o8 r Z=>k o0 o1 o2 o3 o4 o5 o6 o7 o8 r) r) r) r) r) r) r) r) r) ρ
def A41 (ρ:Ax) (k:OP->OP->OP->OP->OP->OP->OP->OP->OP->OP->Ax->Bool):Bool:=@List.rec _ (λ Z=>Bool) false (λ o0 r Z=>@List.rec _ (λ Z=>Bool) false (λ o1 r Z=>@List.rec _ (λ Z=>Bool) false (λ o2 r Z=>@List.rec _ (λ Z=>Bool) false (λ o3 r Z=>@List.rec _ (λ Z=>Bool) false (λ o4 r Z=>@List.rec _ (λ Z=>Bool) false (λ o5 r Z=>@List.rec _ (λ Z=>Bool) false (λ o6 r Z=>@List.rec _ (λ Z=>Bool) false (λ o7 r Z=>@List.rec _ (λ Z=>Bool) false (λ o8 r Z=>@List.rec _ (λ Z=>Bool) false (λ o9 r Z=>k o0 o1 o2 o3 o4 o5 o6 o7 o8 o9 r) r) r) r) r) r) r) r) r) r) ρ
def Ase (ρ:Ax) (k:OP->OP->OP->OP->OP->OP->OP->OP->OP->OP->OP->Ax->Bool):Bool:=@List.rec _ (λ Z=>Bool) false (λ o0 r Z=>@List.rec _ (λ Z=>Bool) false (λ o1 r Z=>@List.rec _ (λ Z=>Bool) false (λ o2 r Z=>@List.rec _ (λ Z=>Bool) false (λ o3 r Z=>@List.rec _ (λ Z=>Bool) false (λ o4 r Z=>@List.rec _ (λ Z=>Bool) false (λ o5 r Z=>@List.rec _ (λ Z=>Bool) false (λ o6 r Z=>@List.rec _ (λ Z=>Bool) false (λ o7 r Z=>@List.rec _ (λ Z=>Bool) false (λ o8 r Z=>@List.rec _ (λ Z=>Bool) false (λ o9 r Z=>@List.rec _ (λ Z=>Bool) false (λ o10 r Z=>k o0 o1 o2 o3 o4 o5 o6 o7 o8 o9 o10 r) r) r) r) r) r) r) r) r) r) r) ρ
def A42 (ρ:Ax) (k:OP->OP->OP->OP->OP->OP->OP->OP->OP->OP->OP->OP->Ax->Bool):Bool:=@List.rec _ (λ Z=>Bool) false (λ o0 r Z=>@List.rec _ (λ Z=>Bool) false (λ o1 r Z=>@List.rec _ (λ Z=>Bool) false (λ o2 r Z=>@List.rec _ (λ Z=>Bool) false (λ o3 r Z=>@List.rec _ (λ Z=>Bool) false (λ o4 r Z=>@List.rec _ (λ Z=>Bool) false (λ o5 r Z=>@List.rec _ (λ Z=>Bool) false (λ o6 r Z=>@List.rec _ (λ Z=>Bool) false (λ o7 r Z=>@List.rec _ (λ Z=>Bool) false (λ o8 r Z=>@List.rec _ (λ Z=>Bool) false (λ o9 r Z=>@List.rec _ (λ Z=>Bool) false (λ o10 r Z=>@List.rec _ (λ Z=>Bool) false (λ o11 r Z=>k o0 o1 o2 o3 o4 o5 o6 o7 o8 o9 o10 o11 r) r) r) r) r) r) r) r) r) r) r) r) ρ
def A43 (ρ:Ax) (k:OP->OP->OP->OP->OP->OP->OP->OP->OP->OP->OP->OP->OP->Ax->Bool):Bool:=@List.rec _ (λ Z=>Bool) false (λ o0 r Z=>@List.rec _ (λ Z=>Bool) false (λ o1 r Z=>@List.rec _ (λ Z=>Bool) false (λ o2 r Z=>@List.rec _ (λ Z=>Bool) false (λ o3 r Z=>@List.rec _ (λ Z=>Bool) false (λ o4 r Z=>@List.rec _ (λ Z=>Bool) false (λ o5 r Z=>@List.rec _ (λ Z=>Bool) false (λ o6 r Z=>@List.rec _ (λ Z=>Bool) false (λ o7 r Z=>@List.rec _ (λ Z=>Bool) false (λ o8 r Z=>@List.rec _ (λ Z=>Bool) false (λ o9 r Z=>@List.rec _ (λ Z=>Bool) false (λ o10 r Z=>@List.rec _ (λ Z=>Bool) false (λ o11 r Z=>@List.rec _ (λ Z=>Bool) false (λ o12 r Z=>k o0 o1 o2 o3 o4 o5 o6 o7 o8 o9 o10 o11 o12 r) r) r) r) r) r) r) r) r) r) r) r) r) ρ
def A1l (ρ:Ax) (k:OP->OP->OP->OP->OP->OP->OP->OP->OP->OP->OP->OP->OP->OP->Ax->Bool):Bool:=@List.rec _ (λ Z=>Bool) false (λ o0 r Z=>@List.rec _ (λ Z=>Bool) false (λ o1 r Z=>@List.rec _ (λ Z=>Bool) false (λ o2 r Z=>@List.rec _ (λ Z=>Bool) false (λ o3 r Z=>@List.rec _ (λ Z=>Bool) false (λ o4 r Z=>@List.rec _ (λ Z=>Bool) false (λ o5 r Z=>@List.rec _ (λ Z=>Bool) false (λ o6 r Z=>@List.rec _ (λ Z=>Bool) false (λ o7 r Z=>@List.rec _ (λ Z=>Bool) false (λ o8 r Z=>@List.rec _ (λ Z=>Bool) false (λ o9 r Z=>@List.rec _ (λ Z=>Bool) false (λ o10 r Z=>@List.rec _ (λ Z=>Bool) false (λ o11 r Z=>@List.rec _ (λ Z=>Bool) false (λ o12 r Z=>@List.rec _ (λ Z=>Bool) false (λ o13 r Z=>k o0 o1 o2 o3 o4 o5 o6 o7 o8 o9 o10 o11 o12 o13 r) r) r) r) r) r) r) r) r) r) r) r) r) r) ρ
end
section
def qM (C:Nat) (κ:Bool) (p:PV) (σ:PS):Bool:=@PV.rec (λ Z=>Bool) (λ Z=>Unit) false F1 F1 F1 F2 F2 (λ D d=>@PO.rec (λ Z=>Bool) F1 F2 (λ Z=>@Bool.rec (λ Z=>Bool) false κ (Nat.beq C D)) false F1 (gP σ.t (Yy d))) F1 F1 F1 () (λ Z Z Z Z=>()) p
end
section
def wkS (a:CS) (g:C0) (h:∀ ρ σ kn kr,g ρ σ kn kr=true->a.f ρ σ kn kr=true):CS:=⟨g,a.n,a.ck,λ B d hK hd s e c A s1 env ρ J σ hR hE hS hO kn kr Q E e1 hN hT=>a.ok B d hK hd s e c A s1 env ρ J σ hR hE hS hO kn kr Q E (h ρ σ kn kr e1) hN hT⟩
def lV (vs:List PV):LF:=λ Z s k=>k vs s
def Ll (p q:PV) (k:PV->Bool):Bool:=Ip (λ n=>Lo (λ l=>bC false (Afr l n λ l=>k (.tup l)) (An l)) p) q
abbrev OF (a k n:Nat) (F:Fn):Prop:=∀ B,Xt B.K->SFc B n a k F
abbrev T1:=PV->PS->(PV->PS->Bool)->Bool
def li1 (g:T1):Fn:=λ ps s k=>@List.rec _ (λ Z=>Bool) false (λ p0 Z Z=>g p0 s k) ps
structure Cg (a:Nat) where
 g:T1
 n:Nat
 ok:OF a 1 n (li1 g)
def Cg.c {a:Nat} (d:Cg a):Bh a 1:=⟨li1 d.g,d.n,d.ok⟩
theorem Ays {C:Prop} {ps:List PV} (h:ps.length=1) (H:∀ p0,ps=[p0]->C):C:=by
 cases ps with
 | nil=>exact nomatch h
 | cons a l=>cases l with
  | nil=>exact H a rfl
  | cons b l=>exact nomatch h
def Avm {a:Nat} (c:Bh a 1) (g:T1) (h:∀ p0 s κ,g p0 s κ=true->c.F [p0] s κ=true):Cg a:=⟨g,c.n,λ B hK=>Dz (c.ok B hK) λ ps s k hk e=>Ays hk λ p0 hp=>by
 subst hp
 exact h p0 s k e⟩
abbrev T2:=PV->PV->PS->(PV->PS->Bool)->Bool
def li2 (g:T2):Fn:=λ ps s k=>@List.rec _ (λ Z=>Bool) false (λ p0 r Z=>@List.rec _ (λ Z=>Bool) false (λ p1 Z Z=>g p0 p1 s k) r) ps
structure B1 (a:Nat) where
 g:T2
 n:Nat
 ok:OF a 2 n (li2 g)
def B1.c {a:Nat} (d:B1 a):Bh a 2:=⟨li2 d.g,d.n,d.ok⟩
theorem Ate {C:Prop} {ps:List PV} (h:ps.length=2) (H:∀ p0 p1,ps=[p0,p1]->C):C:=by
 cases ps with
 | nil=>exact nomatch h
 | cons a l=>exact Ays (Nat.succ.inj h) λ p1 e=>H a p1 (congrArg (List.cons a) e)
theorem A5q (a:Nat):OF a 2 0 (li2 λ Z Z Z Z=>false):=λ B hK A s J σ ps vs hR st r hk κ R e hQ=>Ate hk λ p0 p1 hp=>by
 subst hp
 exact ff e
def Afm {a:Nat} (c:Bh a 2) (g:T2) (h:∀ p0 p1 s κ,g p0 p1 s κ=true->c.F [p0,p1] s κ=true):B1 a:=⟨g,c.n,λ B hK=>Dz (c.ok B hK) λ ps s k hk e=>Ate hk λ p0 p1 hp=>by
 subst hp
 exact h p0 p1 s k e⟩
abbrev T3:=PV->PV->PV->PS->(PV->PS->Bool)->Bool
def li3 (g:T3):Fn:=λ ps s k=>@List.rec _ (λ Z=>Bool) false (λ p0 r Z=>@List.rec _ (λ Z=>Bool) false (λ p1 r Z=>@List.rec _ (λ Z=>Bool) false (λ p2 Z Z=>g p0 p1 p2 s k) r) r) ps
structure Lm (a:Nat) where
 g:T3
 n:Nat
 ok:OF a 3 n (li3 g)
def Lm.c {a:Nat} (d:Lm a):Bh a 3:=⟨li3 d.g,d.n,d.ok⟩
theorem Atf {C:Prop} {ps:List PV} (h:ps.length=3) (H:∀ p0 p1 p2,ps=[p0,p1,p2]->C):C:=by
 cases ps with
 | nil=>exact nomatch h
 | cons a l=>exact Ate (Nat.succ.inj h) λ p1 p2 e=>H a p1 p2 (congrArg (List.cons a) e)
theorem A2a (a:Nat):OF a 3 0 (li3 λ Z Z Z Z Z=>false):=λ B hK A s J σ ps vs hR st r hk κ R e hQ=>Atf hk λ p0 p1 p2 hp=>by
 subst hp
 exact ff e
def A05 {a:Nat} (c:Bh a 3) (g:T3) (h:∀ p0 p1 p2 s κ,g p0 p1 p2 s κ=true->c.F [p0,p1,p2] s κ=true):Lm a:=⟨g,c.n,λ B hK=>Dz (c.ok B hK) λ ps s k hk e=>Atf hk λ p0 p1 p2 hp=>by
 subst hp
 exact h p0 p1 p2 s k e⟩
abbrev T4:=PV->PV->PV->PV->PS->(PV->PS->Bool)->Bool
def li4 (g:T4):Fn:=λ ps s k=>@List.rec _ (λ Z=>Bool) false (λ p0 r Z=>@List.rec _ (λ Z=>Bool) false (λ p1 r Z=>@List.rec _ (λ Z=>Bool) false (λ p2 r Z=>@List.rec _ (λ Z=>Bool) false (λ p3 Z Z=>g p0 p1 p2 p3 s k) r) r) r) ps
structure CD4 (a:Nat) where
 g:T4
 n:Nat
 ok:OF a 4 n (li4 g)
def CD4.c {a:Nat} (d:CD4 a):Bh a 4:=⟨li4 d.g,d.n,d.ok⟩
theorem Ayt {C:Prop} {ps:List PV} (h:ps.length=4) (H:∀ p0 p1 p2 p3,ps=[p0,p1,p2,p3]->C):C:=by
 cases ps with
 | nil=>exact nomatch h
 | cons a l=>exact Atf (Nat.succ.inj h) λ p1 p2 p3 e=>H a p1 p2 p3 (congrArg (List.cons a) e)
theorem A2b (a:Nat):OF a 4 0 (li4 λ Z Z Z Z Z Z=>false):=λ B hK A s J σ ps vs hR st r hk κ R e hQ=>Ayt hk λ p0 p1 p2 p3 hp=>by
 subst hp
 exact ff e
abbrev T5:=PV->PV->PV->PV->PV->PS->(PV->PS->Bool)->Bool
def li5 (g:T5):Fn:=λ ps s k=>@List.rec _ (λ Z=>Bool) false (λ p0 r Z=>@List.rec _ (λ Z=>Bool) false (λ p1 r Z=>@List.rec _ (λ Z=>Bool) false (λ p2 r Z=>@List.rec _ (λ Z=>Bool) false (λ p3 r Z=>@List.rec _ (λ Z=>Bool) false (λ p4 Z Z=>g p0 p1 p2 p3 p4 s k) r) r) r) r) ps
structure CD5 (a:Nat) where
 g:T5
 n:Nat
 ok:OF a 5 n (li5 g)
def CD5.c {a:Nat} (d:CD5 a):Bh a 5:=⟨li5 d.g,d.n,d.ok⟩
theorem A5u {C:Prop} {ps:List PV} (h:ps.length=5) (H:∀ p0 p1 p2 p3 p4,ps=[p0,p1,p2,p3,p4]->C):C:=by
 cases ps with
 | nil=>exact nomatch h
 | cons a l=>exact Ayt (Nat.succ.inj h) λ p1 p2 p3 p4 e=>H a p1 p2 p3 p4 (congrArg (List.cons a) e)
def Ec:T1:=λ p σ k=>shp (El λ s=>k (.bool (isV s)) σ) (λ Z Z=>k (.bool false) σ) (λ Z Z Z=>k (.bool false) σ) p
def Az:Cg 98:=Avm Ow Ec λ p s κ e=>e
def Acu (n:Nat):T1:=A2l n
def Hb:Cg 108:=Avm Al3 (Acu 12) λ p s κ e=>A2m e
def Azb (f:T2):T2:=λ p q σ k=>shp (El λ s=>bC (k (.tup [.str s]) σ) (getD q (.str s) p σ λ v=>k v σ) (isV s))
 (λ a x=>f x q σ λ x σ=>k (.tup [a,x]) σ) (λ a x y=>f x q σ λ x σ=>f y q σ λ y σ=>k (.tup [a,x,y]) σ) p
def Xh (n:Nat):T2:=@Nat.rec (λ Z=>T2) (λ Z Z Z Z=>false) (λ Z ih=>Azb ih) n
theorem Ax3:∀ n,(λ p q σ κ=>(Qu n).F [p,q] σ κ)=Xh n:=λ n=>by
 induction n with
 | zero=>rfl
 | succ n ih=>exact (show (λ p q σ κ=>(Qu (n+1)).F [p,q] σ κ)=Azb (λ p q σ κ=>(Qu n).F [p,q] σ κ) by kernel_rfl).trans (congrArg Azb ih)
def Ha (n:Nat):B1 238:=Afm (Qu n) (Xh n) λ p q s κ e=>by
 rw [<- Ax3 n] at e;exact e
def Akt (g:Nat->(PV->PS->Bool)->PS->Bool):T2:=λ p q σ k=>Qq (λ i=>Ip (λ w=>Rz i σ λ m=>bC false (bC false (Cb i (.deck (m+1)) σ λ σ=>g w k σ) (Nat.blt 0 w)) (Nat.blt m 200)) q) p
def G_pV (v:Nat):T2:=Akt λ w k σ=>k (.int (Int.ofNat v)) σ
def G_pG (gs:Nat->T2):T2:=λ p q s k=>Ip (λ w=>bC false (Gw w λ o=>gs o p q s k) (Nat.blt 0 w)) q
theorem A0g {k:Nat->Bool} {p:PV} (h:Ip k p=true):∃ w,p=.int (Int.ofNat w)/\Nat.ble w Bv=true/\k w=true:=by
 cases p with
 | int i=>cases i with
  | ofNat n=>exact Bs (b:=Nat.ble n Bv) (t:=k n) h λ a b=>⟨n,rfl,a,b⟩
  | negSucc n=>exact ff h
 | _=>exact ff h
theorem Akd {k:Nat->Bool}:∀ {j:Nat},(∀ r,r<j->k r=true)->Gw j k=true
 | 0,_=>rfl
 | j+1,h=>by
  show bC false (Gw j k) (k j)=true
  rw [h j (Nat.lt_succ_self j)]
  exact Akd λ r hr=>h r (Nat.lt_succ_of_lt hr)
theorem A2g (p q:PV) (s:PS) (κ:PV->PS->Bool) (e:G_pG G_pV p q s κ=true):Aln.F [p,q] s κ=true:=by
 obtain ⟨w,rfl,hb,e⟩:=A0g e
 refine Bs e λ hw e=>?_
 have h0:=Akc e
 have e0:=h0 0 (zzi hw)
 obtain ⟨i,rfl,e0⟩:=Alw e0
 refine Bs (b:=Nat.ble w Bv) (t:=Rz i s λ m=>bC false (bC false (Cb i (.deck (m+1)) s λ σ=>κ (.int (Int.ofNat 0)) σ) (Nat.blt 0 w)) (Nat.blt m 200)) e0 λ Z e0=>?_
 refine Aom e0 λ m hd e0=>Bs e0 λ h1 e0=>Bs e0 λ h2 Z=>?_
 obtain ⟨t',hp,run⟩:=Hu i (.deck (m+1)) s
 have key:∀ g:Nat->(PV->PS->Bool)->PS->Bool,Akt g (.obj i) (.int (Int.ofNat w)) s κ=g w κ ⟨s.n,t'⟩:=λ g=>by
  show bC false (Rz i s λ m=>bC false (bC false (Cb i (.deck (m+1)) s λ σ=>g w κ σ) (Nat.blt 0 w)) (Nat.blt m 200)) (Nat.ble w Bv)=_
  rw [hb]
  show Rz i s _=_
  unfold Rz
  rw [hd]
  show bC false (bC false _ (Nat.blt 0 w)) (Nat.blt m 200)=_
  rw [h1,hw]
  exact run _
 refine (show Aln.F [.obj i,.int (Int.ofNat w)] s κ=_ from key λ w k σ=>Gw w λ v=>k (.int (Int.ofNat v)) σ).trans ?_
 exact Akd λ x hx=>(key λ w k σ=>k (.int (Int.ofNat x)) σ).symm.trans (h0 x hx)
def Axb:B1 864:=Afm Aln (G_pG G_pV) A2g
def Axe:T2:=Akt λ w k σ=>Gw w λ v=>k (.int (Int.ofNat v)) σ
def A4p:B1 864:=Afm Aln Axe λ p q s κ e=>e
def Axf:T2:=Akt λ w k σ=>k (.sym w) σ
def A4q:B1 864:=Afm A2o Axf λ p q s κ e=>e
end
section
theorem Mj {τ:Type} {G R:Nat->τ} (S:τ->τ) (hz:G 0=R 0) (hs:∀ n,G (n+1)=S (G n)) (hr:∀ n,R (n+1)=S (R n)) (n:Nat):G n=R n:=by
 induction n with
 | zero=>exact hz
 | succ n ih=>exact (hs n).trans ((congrArg S ih).trans (hr n).symm)
@[elab_as_elim] theorem cO {α:Type} {f:Option α->Prop} {k:α->Bool} {o:Option α} (e:oC k o=true) (h:∀ p,k p=true->f (some p)):f o:=oC_ e λ a q e=>q▸h a e
theorem No {τ:Type} {A:Bool} (φ:τ->Bool) {G R:τ} (hA:A=φ G) (h:G=R) (e:φ R=true):A=true:=hA.trans (h▸e)
def Avl {a n:Nat} {g g':T1} (h:OF a 1 n (li1 g)) (e:g=g'):Cg a:=⟨g',n,e▸h⟩
abbrev KA:=List PV->Nat->PS->Bool
@[elab_as_elim] theorem xc1 {f:Ax->Prop} {k:OP->Ax->Bool} {ρ:Ax} (e:ex1 ρ k=true) (h:∀ o0 r,k o0 r=true->f (o0::r)):f ρ:=by
 cases ρ with
 | nil=>exact ff e
 | cons o r=>exact h o r e
@[elab_as_elim] theorem xc2 {f:Ax->Prop} {k:OP->OP->Ax->Bool} {ρ:Ax} (e:ex2 ρ k=true) (h:∀ o0 o1 r,k o0 o1 r=true->f (o0::o1::r)):f ρ:=by
 cases ρ with
 | nil=>exact ff e
 | cons o r=>exact xc1 (f:=λ r=>f (o::r)) (k:=k o) e (h o)
@[elab_as_elim] theorem xc3 {f:Ax->Prop} {k:OP->OP->OP->Ax->Bool} {ρ:Ax} (e:ex3 ρ k=true) (h:∀ o0 o1 o2 r,k o0 o1 o2 r=true->f (o0::o1::o2::r)):f ρ:=by
 cases ρ with
 | nil=>exact ff e
 | cons o r=>exact xc2 (f:=λ r=>f (o::r)) (k:=k o) e (h o)
@[elab_as_elim] theorem xc4 {f:Ax->Prop} {k:OP->OP->OP->OP->Ax->Bool} {ρ:Ax} (e:ex4 ρ k=true) (h:∀ o0 o1 o2 o3 r,k o0 o1 o2 o3 r=true->f (o0::o1::o2::o3::r)):f ρ:=by
 cases ρ with
 | nil=>exact ff e
 | cons o r=>exact xc3 (f:=λ r=>f (o::r)) (k:=k o) e (h o)
@[elab_as_elim] theorem xc5 {f:Ax->Prop} {k:OP->OP->OP->OP->OP->Ax->Bool} {ρ:Ax} (e:ex5 ρ k=true) (h:∀ o0 o1 o2 o3 o4 r,k o0 o1 o2 o3 o4 r=true->f (o0::o1::o2::o3::o4::r)):f ρ:=by
 cases ρ with
 | nil=>exact ff e
 | cons o r=>exact xc4 (f:=λ r=>f (o::r)) (k:=k o) e (h o)
@[elab_as_elim] theorem xc6 {f:Ax->Prop} {k:OP->OP->OP->OP->OP->OP->Ax->Bool} {ρ:Ax} (e:ex6 ρ k=true) (h:∀ o0 o1 o2 o3 o4 o5 r,k o0 o1 o2 o3 o4 o5 r=true->f (o0::o1::o2::o3::o4::o5::r)):f ρ:=by
 cases ρ with
 | nil=>exact ff e
 | cons o r=>exact xc5 (f:=λ r=>f (o::r)) (k:=k o) e (h o)
@[elab_as_elim] theorem xc7 {f:Ax->Prop} {k:OP->OP->OP->OP->OP->OP->OP->Ax->Bool} {ρ:Ax} (e:ex7 ρ k=true) (h:∀ o0 o1 o2 o3 o4 o5 o6 r,k o0 o1 o2 o3 o4 o5 o6 r=true->f (o0::o1::o2::o3::o4::o5::o6::r)):f ρ:=by
 cases ρ with
 | nil=>exact ff e
 | cons o r=>exact xc6 (f:=λ r=>f (o::r)) (k:=k o) e (h o)
@[elab_as_elim] theorem xc8 {f:Ax->Prop} {k:OP->OP->OP->OP->OP->OP->OP->OP->Ax->Bool} {ρ:Ax} (e:ex8 ρ k=true) (h:∀ o0 o1 o2 o3 o4 o5 o6 o7 r,k o0 o1 o2 o3 o4 o5 o6 o7 r=true->f (o0::o1::o2::o3::o4::o5::o6::o7::r)):f ρ:=by
 cases ρ with
 | nil=>exact ff e
 | cons o r=>exact xc7 (f:=λ r=>f (o::r)) (k:=k o) e (h o)
@[elab_as_elim] theorem xc9 {f:Ax->Prop} {k:OP->OP->OP->OP->OP->OP->OP->OP->OP->Ax->Bool} {ρ:Ax} (e:ex9 ρ k=true) (h:∀ o0 o1 o2 o3 o4 o5 o6 o7 o8 r,k o0 o1 o2 o3 o4 o5 o6 o7 o8 r=true->f (o0::o1::o2::o3::o4::o5::o6::o7::o8::r)):f ρ:=by
 cases ρ with
 | nil=>exact ff e
 | cons o r=>exact xc8 (f:=λ r=>f (o::r)) (k:=k o) e (h o)
@[elab_as_elim] theorem A6b {f:Ax->Prop} {k:OP->OP->OP->OP->OP->OP->OP->OP->OP->OP->Ax->Bool} {ρ:Ax} (e:A41 ρ k=true) (h:∀ o0 o1 o2 o3 o4 o5 o6 o7 o8 o9 r,k o0 o1 o2 o3 o4 o5 o6 o7 o8 o9 r=true->f (o0::o1::o2::o3::o4::o5::o6::o7::o8::o9::r)):f ρ:=by
 cases ρ with
 | nil=>exact ff e
 | cons o r=>exact xc9 (f:=λ r=>f (o::r)) (k:=k o) e (h o)
@[elab_as_elim] theorem Au9 {f:Ax->Prop} {k:OP->OP->OP->OP->OP->OP->OP->OP->OP->OP->OP->Ax->Bool} {ρ:Ax} (e:Ase ρ k=true) (h:∀ o0 o1 o2 o3 o4 o5 o6 o7 o8 o9 o10 r,k o0 o1 o2 o3 o4 o5 o6 o7 o8 o9 o10 r=true->f (o0::o1::o2::o3::o4::o5::o6::o7::o8::o9::o10::r)):f ρ:=by
 cases ρ with
 | nil=>exact ff e
 | cons o r=>exact A6b (f:=λ r=>f (o::r)) (k:=k o) e (h o)
@[elab_as_elim] theorem A6c {f:Ax->Prop} {k:OP->OP->OP->OP->OP->OP->OP->OP->OP->OP->OP->OP->Ax->Bool} {ρ:Ax} (e:A42 ρ k=true) (h:∀ o0 o1 o2 o3 o4 o5 o6 o7 o8 o9 o10 o11 r,k o0 o1 o2 o3 o4 o5 o6 o7 o8 o9 o10 o11 r=true->f (o0::o1::o2::o3::o4::o5::o6::o7::o8::o9::o10::o11::r)):f ρ:=by
 cases ρ with
 | nil=>exact ff e
 | cons o r=>exact Au9 (f:=λ r=>f (o::r)) (k:=k o) e (h o)
@[elab_as_elim] theorem A6d {f:Ax->Prop} {k:OP->OP->OP->OP->OP->OP->OP->OP->OP->OP->OP->OP->OP->Ax->Bool} {ρ:Ax} (e:A43 ρ k=true) (h:∀ o0 o1 o2 o3 o4 o5 o6 o7 o8 o9 o10 o11 o12 r,k o0 o1 o2 o3 o4 o5 o6 o7 o8 o9 o10 o11 o12 r=true->f (o0::o1::o2::o3::o4::o5::o6::o7::o8::o9::o10::o11::o12::r)):f ρ:=by
 cases ρ with
 | nil=>exact ff e
 | cons o r=>exact A6c (f:=λ r=>f (o::r)) (k:=k o) e (h o)
@[elab_as_elim] theorem A6e {f:Ax->Prop} {k:OP->OP->OP->OP->OP->OP->OP->OP->OP->OP->OP->OP->OP->OP->Ax->Bool} {ρ:Ax} (e:A1l ρ k=true) (h:∀ o0 o1 o2 o3 o4 o5 o6 o7 o8 o9 o10 o11 o12 o13 r,k o0 o1 o2 o3 o4 o5 o6 o7 o8 o9 o10 o11 o12 o13 r=true->f (o0::o1::o2::o3::o4::o5::o6::o7::o8::o9::o10::o11::o12::o13::r)):f ρ:=by
 cases ρ with
 | nil=>exact ff e
 | cons o r=>exact A6d (f:=λ r=>f (o::r)) (k:=k o) e (h o)
theorem U7 {a:Nat} (c:Bh a 1) {g:T1} (h:∀ p0 s κ,c.F [p0] s κ=g p0 s κ):OF a 1 c.n (li1 g):=λ B hK=>Dz (c.ok B hK) λ ps s k hk e=>Ays hk λ p0 q=>by
 subst q
 exact (h p0 s k).trans e
theorem Qr {a:Nat} (c:Bh a 2) {g:T2} (h:∀ p0 p1 s κ,c.F [p0,p1] s κ=g p0 p1 s κ):OF a 2 c.n (li2 g):=λ B hK=>Dz (c.ok B hK) λ ps s k hk e=>Ate hk λ p0 p1 q=>by
 subst q
 exact (h p0 p1 s k).trans e
def cF2 {a:Nat} (c:Bh a 2):B1 a:=Afm c (λ p0 p1 s k=>c.F [p0,p1] s k) λ p0 p1 s k e=>e
theorem lw3 {a:Nat} (c:Bh a 3) {g:T3} (h:∀ p0 p1 p2 s κ,c.F [p0,p1,p2] s κ=g p0 p1 p2 s κ):OF a 3 c.n (li3 g):=λ B hK=>Dz (c.ok B hK) λ ps s k hk e=>Atf hk λ p0 p1 p2 q=>by
 subst q
 exact (h p0 p1 p2 s k).trans e
def cF3 {a:Nat} (c:Bh a 3):Lm a:=A05 c (λ p0 p1 p2 s k=>c.F [p0,p1,p2] s k) λ p0 p1 p2 s k e=>e
theorem lw4 {a:Nat} (c:Bh a 4) {g:T4} (h:∀ p0 p1 p2 p3 s κ,c.F [p0,p1,p2,p3] s κ=g p0 p1 p2 p3 s κ):OF a 4 c.n (li4 g):=λ B hK=>Dz (c.ok B hK) λ ps s k hk e=>Ayt hk λ p0 p1 p2 p3 q=>by
 subst q
 exact (h p0 p1 p2 p3 s k).trans e
theorem lw5 {a:Nat} (c:Bh a 5) {g:T5} (h:∀ p0 p1 p2 p3 p4 s κ,c.F [p0,p1,p2,p3,p4] s κ=g p0 p1 p2 p3 p4 s κ):OF a 5 c.n (li5 g):=λ B hK=>Dz (c.ok B hK) λ ps s k hk e=>A5u hk λ p0 p1 p2 p3 p4 q=>by
 subst q
 exact (h p0 p1 p2 p3 p4 s k).trans e
end
section
set_option maxHeartbeats 200000
local macro_rules |`(tactic| rfl)=>`(tactic| kernel_rfl)
abbrev Ko:=OP->PS->Bool
abbrev Ae9:=OP->OP->OP->PS->Bool
abbrev Rf:=OP->OP->OP->OP->PS->Bool
abbrev C3:=OP->OP->OP->OP->OP->PS->Bool
abbrev Kp:=PV->PS->Bool
abbrev Kpo:=PV->OP->PS->Bool
abbrev Fh:=PV->OP->OP->PS->Bool
abbrev H3:=PV->OP->OP->OP->OP->PS->Bool
variable (p0 p1 p2 p3 p4 p5 p6 p7 p8 p9 p10 p11 p12 p13 p14:PV) (o0 o1 o2 o3 o4 o5 o6 o7 o8 o9 o10 o11 o12 o13 o14:OP) (s:PS) (k kr:PV->PS->Bool) (r:Ax) (kl:Ax->PS->Bool)
section
def Ao8:Bh 91 1:=Ce 1 0 ["text"] (Ag (Ay (Asu (cNe (Aa 0) (Ac 0)) (cEq (B9 (cc2 1 [] (iK (Aa 0)) (gN 0) (Au4 (V4 (Ayf (Aa 0) kN)) (tIn (Aa 0) (Ac 0x1d8000b4000fc0007c0002f0001700005400029))) (Aa 0))) (Fk kN)))) At) rfl (λ Z=>Ru λ Z=>rfl) (by rfl)
end
def Arw:T1:=λ p0 s k=>Ao8.F [p0] s k
def Aj3:Cg 91:=⟨Arw,_,U7 Ao8 λ p0 s k=>by rfl⟩
section
variable (g1:T1) (d1:Cg 108) (g2:T1) (d2:Cg 98)
def G6 (κ:KA) (F:PV->PV->It->KA) (it:It) (acc:List PV) (b:Nat) (s:PS):Bool:=G7 it s (κ acc b s) λ x it=>Ht x s λ l1=>bC false (lC false (λ x2 l3=>lC false (λ x4 l5=>lC (g2 x4 s λ v8 s=>Nm (λ b6=>bC (F x2 x4 it acc b s) (Ar x4 (.int 0) s λ v10=>@Nat.rec (λ Z=>Bool) false (λ b Z=>F x2 x4 it (v10::acc) b s) b) b6) v8) F2 l5) l3) l1) (Nat.beq (len l1) 2)
def P3 (κ:KA) (n:Nat):It->KA:=@Nat.rec (λ Z=>It->KA) (λ Z Z Z Z=>false) (λ Z ih=>G6 g2 κ λ Z Z=>ih) n
def P1 (κ:KA) (n:Nat) (it:It) (o0:OP) (o1:OP):KA:=λ acc b s=>Bl (Lq (Cm (gN 0) (Cm (gN 1) Lp))).f (cIf (V4 (Ai d2.c (kC (Aa 1) kN))).f (Be (Ak (Aa 1) (Al 0)).f)) n it [o0,o1] acc b s λ Z=>κ
theorem Aa2 (κ:KA) (n:Nat):∀ (it:It) (o0:OP) (o1:OP),P1 d2 κ n it o0 o1=P3 d2.g κ n it:=by
 induction n with
 | zero=>exact λ it o0 o1=>by rfl
 | succ n ih=>exact λ it o0 o1=>Eq.trans (b:=G6 d2.g κ (λ t0 t1 it=>P1 d2 κ n it (some t0) (some t1)) it) (by rfl) (congrArg (λ F=>G6 d2.g κ F it) (funext λ t0=>funext λ t1=>funext λ it=>ih it (some t0) (some t1)))
def P2 (K:It->PS->Bool):Bool:=g1 p0 s λ v13 s=>Bn v13 s λ t11 s=>K t11 s
def P0:Bool:=P2 p0 s g1 λ it t=>P3 g2 (λ acc Z t=>k (.lst (rv acc)) t) 200 it [] Bv t
def Aeh:CE:=wkE (B9 (cc2 2 [] (iK (Ai d1.c (kC (Aa 0) kN))) (Lq (Cm (gN 0) (Cm (gN 1) Lp))) (V4 (Ai d2.c (kC (Aa 1) kN))) (Ak (Aa 1) (Al 0)))) (λ ρ s k=>ex1 ρ λ o0 r=>oC (λ p0=>P0 p0 s k d1.g d2.g) o0) λ ρ s k=>λ e=>xc1 e λ o0 r e=>cO e λ p0 e=>No (λ (F:It->KA)=>P2 p0 s d1.g λ it t=>F it [] Bv t) (by rfl) (funext λ it=>Aa2 d2 (λ acc Z t=>k (.lst (rv acc)) t) 200 it none none) e
def Z0:Bh 103 1:=Ce 1 0 ["t"] (Ag (Ay (Si (Aeh d1 d2))) At) rfl (λ Z=>Ru λ Z=>rfl) (by rfl)
def Z1 (p0:PV) (s:PS) (k:PV->PS->Bool):Bool:=P0 p0 s (λ v17 s=>Mh (eC v17) [] s λ v15 s=>k v15 s) g1 g2
theorem Ajy:OF 103 1 (Z0 d1 d2).n (li1 (Z1 d1.g d2.g)):=U7 (Z0 d1 d2) λ p0 s k=>by rfl
end
def Ur:T1:=Z1 (Acu 12) Ec
def Bp:Cg 103:=⟨Ur,_,Ajy Hb Az⟩
section
def Agr:Bh 115 2:=Ce 2 1 ["t","path","k"] (Ag (Gx (iK (Aa 1)) (gN 2) (Ag (Bz (Y8 (A3c .LtE .Lt (λ Z=>Aqq) (λ Z=>Als) (Al 0) (Aa 2) (Am6 (Cr (kC (Aa 0) kN)) (Al 1)))) (Ag Ig At) At) (Ag (Br 0 (Ak (Aa 0) (Cj (Aa 2) (Al 1)))) At))) (Ag (Ay (Aa 0)) At)) rfl (λ Z=>Nr λ Z Z=>rfl) (by rfl)
end
def Al7:T2:=λ p0 p1 s k=>Agr.F [p0,p1] s k
def Al2:B1 115:=⟨Al7,_,Qr Agr λ p0 p1 s k=>by rfl⟩
section
variable (g0:T3) (d0:Lm 122) (g1:T2) (d1:B1 115)
def Anf:Bh 122 3:=Ce 3 1 ["t","path","u","kid"] (Ag (Bz (tEq (Aa 1) (Ad kN)) (Ag (Ay (Aa 2)) At) At) (Ag (Br 3 (Ai d1.c (kC (Aa 0) (kC (Af5 (Aa 1) (Al 1)) kN)))) (Ag (Ay (Cj (Cj (Af5 (Aa 0) (Cj (Ak (Aa 1) (Al 0)) (Al 1))) (Ad (kC (Ai d0.c (kC (Aa 3) (kC (Dn (Aa 1) (Al 1)) (kC (Aa 2) kN)))) kN))) (Dn (Aa 0) (Cj (Ak (Aa 1) (Al 0)) (Al 2))))) At))) rfl (λ Z=>bd3 λ Z Z Z=>rfl) (by rfl)
end
def Wy (n:Nat):Bh 122 3:=Apk (λ f=>(Anf (cF3 f) Al2)) n
def Ahx (n:Nat):T3:=λ p0 p1 p2 s k=>(Wy n).F [p0,p1,p2] s k
def Xc (n:Nat):Lm 122:=⟨Ahx n,_,lw3 (Wy n) λ p0 p1 p2 s k=>by rfl⟩
section
variable (g0:T2) (d0:B1 127)
def Aqf:Bh 127 2:=Ce 2 0 ["t","table"] (Ag (Ay (Cj (Ad (kC (Vz (Aa 1) (kC (Ak (Aa 0) (Al 0)) (kC (Ak (Aa 0) (Al 0)) kN))) kN)) (Em (kC (B9 (Wp 1 [1] (iK (Dn (Aa 0) (Al 1))) (gN 0) (Ai d0.c (kC (Aa 0) (kC (Aa 1) kN))))) kN)))) At) rfl (λ Z=>Nr λ Z Z=>rfl) (by rfl)
end
def Aa5 (n:Nat):Bh 127 2:=Apk (λ f=>(Aqf (cF2 f))) n
def Al8 (n:Nat):T2:=λ p0 p1 s k=>(Aa5 n).F [p0,p1] s k
def Aa7 (n:Nat):B1 127:=⟨Al8 n,_,Qr (Aa5 n) λ p0 p1 s k=>by rfl⟩
section
def Wz:Bh 141 1:=Ce 1 0 ["self"] (Ag (Bu 0x7400033000194000e00006f (Aa 0) (Cf kN)) (Ag (Bu 0x1d0000e600066000318001b8000ec0006f (Aa 0) C7) (Ag (Bu 0x1d0000ea00069000340001a8000cc00078 (Aa 0) (Cf kN)) (Ag (Bu 0xe8000690003a8001c4000cc00065 (Aa 0) (Cf kN)) At)))) rfl (λ Z=>Ru λ Z=>rfl) (by rfl)
end
def Ae0:T1:=λ p0 s k=>Wz.F [p0] s k
def Ue:Cg 141:=⟨Ae0,_,U7 Wz λ p0 s k=>by rfl⟩
section
def W2:Bh 148 1:=Ce 1 0 ["self"] (Ag (Ay (Cr (kC (Af 0x7400033000194000e00006f (Aa 0)) kN))) At) rfl (λ Z=>Ru λ Z=>rfl) (by rfl)
def W3 (p0:PV) (s:PS) (k:PV->PS->Bool):Bool:=Au 0x7400033000194000e00006f (λ v3=>Hs [v3] s λ v1 s=>k v1 s) p0 s
theorem Ahp:OF 148 1 W2.n (li1 W3):=U7 W2 λ p0 s k=>by rfl
end
def Uk:T1:=W3
def Aet:Cg 148:=⟨Uk,_,Ahp⟩
section
variable (g1:T1) (d1:Cg 91)
def Oe:Bh 160 2:=Ce 2 0 ["self","op"] (Ag (Bz (Au4 (Y8 (V4 (Ai d1.c (kC (Aa 1) kN)))) (tEq (Ak (Aa 1) (Al 0)) (Ac 64))) (Ag Ig At) At) At) rfl (λ Z=>Nr λ Z Z=>rfl) (by rfl)
end
def L0:T2:=λ p0 p1 s k=>(Oe Aj3).F [p0,p1] s k
def W6:B1 160:=⟨L0,_,Qr (Oe Aj3) λ p0 p1 s k=>by rfl⟩
section
variable (g1:T2) (d1:B1 160)
def Gn (κ:KA) (F:PV->It->KA) (it:It) (acc:List PV) (b:Nat) (s:PS):Bool:=G7 it s (κ acc b s) λ x it=>Au 0xe8000690003a8001c4000cc00065 (λ v2=>Ar v2 x s λ v1=>@Nat.rec (λ Z=>Bool) false (λ b Z=>F x it (v1::acc) b s) b) p1 s
def Oi (κ:KA) (n:Nat):It->KA:=@Nat.rec (λ Z=>It->KA) (λ Z Z Z Z=>false) (λ Z ih=>Gn p1 κ λ Z=>ih) n
def Og (κ:KA) (n:Nat) (it:It) (o0:OP):KA:=λ acc b s=>Bl (gN 0).f (Be (Ak (Af 0xe8000690003a8001c4000cc00065 (Aa 1)) (Aa 0)).f) n it [o0,some p1] acc b s λ Z=>κ
theorem Z2 (κ:KA) (n:Nat):∀ (it:It) (o0:OP),Og p1 κ n it o0=Oi p1 κ n it:=by
 induction n with
 | zero=>exact λ it o0=>by rfl
 | succ n ih=>exact λ it o0=>Eq.trans (b:=Gn p1 κ (λ t0 it=>Og p1 κ n it (some t0)) it) (by rfl) (congrArg (λ F=>Gn p1 κ F it) (funext λ t0=>funext λ it=>ih it (some t0)))
def Oh (K:It->PS->Bool):Bool:=Ll p3 (.int 1) λ v5=>Bn v5 s λ t3 s=>K t3 s
def Of:Bool:=Oh p3 s λ it t=>Oi p0 (λ acc Z t=>k (.lst (rv acc)) t) 200 it [] Bv t
def Aci:CE:=wkE (B9 (Wp 1 [0] (iK (Dn (Aa 3) (Al 1))) (gN 0) (Ak (Af 0xe8000690003a8001c4000cc00065 (Aa 1)) (Aa 0)))) (λ ρ s k=>ex4 ρ λ o0 o1 o2 o3 r=>oC (λ p0=>oC (λ p3=>Of p0 p3 s k) o3) o0) λ ρ s k=>λ e=>xc4 e λ o0 o1 o2 o3 r e=>cO e λ p0 e=>cO e λ p3 e=>No (λ (F:It->KA)=>Oh p3 s λ it t=>F it [] Bv t) (by rfl) (funext λ it=>Z2 p0 (λ acc Z t=>k (.lst (rv acc)) t) 200 it none) e
def Go (κ:KA) (F:PV->It->KA) (it:It) (acc:List PV) (b:Nat) (s:PS):Bool:=G7 it s (κ acc b s) λ x it=>Au 0x1d0000ea00069000340001a8000cc00078 (λ v7=>Ar v7 x s λ v6=>@Nat.rec (λ Z=>Bool) false (λ b Z=>F x it (v6::acc) b s) b) p1 s
def Om (κ:KA) (n:Nat):It->KA:=@Nat.rec (λ Z=>It->KA) (λ Z Z Z Z=>false) (λ Z ih=>Go p1 κ λ Z=>ih) n
def Ok (κ:KA) (n:Nat) (it:It) (o0:OP):KA:=λ acc b s=>Bl (gN 0).f (Be (Ak (Af 0x1d0000ea00069000340001a8000cc00078 (Aa 1)) (Aa 0)).f) n it [o0,some p1] acc b s λ Z=>κ
theorem Z3 (κ:KA) (n:Nat):∀ (it:It) (o0:OP),Ok p1 κ n it o0=Om p1 κ n it:=by
 induction n with
 | zero=>exact λ it o0=>by rfl
 | succ n ih=>exact λ it o0=>Eq.trans (b:=Go p1 κ (λ t0 it=>Ok p1 κ n it (some t0)) it) (by rfl) (congrArg (λ F=>Go p1 κ F it) (funext λ t0=>funext λ it=>ih it (some t0)))
def Ol (K:It->PS->Bool):Bool:=Ll p3 (.int 1) λ v10=>Bn v10 s λ t8 s=>K t8 s
def Oj:Bool:=Ol p3 s λ it t=>Om p0 (λ acc Z t=>k (.lst (rv acc)) t) 200 it [] Bv t
def Acj:CE:=wkE (B9 (Wp 1 [0] (iK (Dn (Aa 3) (Al 1))) (gN 0) (Ak (Af 0x1d0000ea00069000340001a8000cc00078 (Aa 1)) (Aa 0)))) (λ ρ s k=>ex4 ρ λ o0 o1 o2 o3 r=>oC (λ p0=>oC (λ p3=>Oj p0 p3 s k) o3) o0) λ ρ s k=>λ e=>xc4 e λ o0 o1 o2 o3 r e=>cO e λ p0 e=>cO e λ p3 e=>No (λ (F:It->KA)=>Ol p3 s λ it t=>F it [] Bv t) (by rfl) (funext λ it=>Z3 p0 (λ acc Z t=>k (.lst (rv acc)) t) 200 it none) e
def Vm (F:It->Ko) (it:It) (p0:PV) (s:PS) (x:PV):Bool:=Au 0x7400033000194000e00006f (λ v28=>Hs [v28] s λ v26 s=>pLt x v26 s λ b24 s=>bC (false) (F it (some x) s) b24) p0 s
def Os (kn:Ko) (F:It->Ko) (it:It) (o4:OP) (s:PS):Bool:=G7 it s (kn o4 s) λ x it=>pLe (.int 0) x s λ b22 s=>bC (false) (Vm F it p0 s x) b22
def Oq (kn:Ko) (n:Nat):It->Ko:=@Nat.rec (λ Z=>It->Ko) (λ Z Z Z=>false) (λ Z=>Os p0 kn) n
def Op (K:It->PS->Bool):Bool:=Ll p3 (.int 1) λ v31=>Bn v31 s λ t29 s=>K t29 s
def On:Np:=Ag (Bz (Y8 (A3c .LtE .Lt (λ Z=>Aqq) (λ Z=>Als) (Al 0) (Aa 4) (Cr (kC (Af 0x7400033000194000e00006f (Aa 0)) kN)))) (Ag Ig At) At) At
def Oo (kn:Ko):Bool:=Op p3 s λ it t=>Oq p0 kn 200 it o4 t
def Z5 (n:Nat):It->Ko:=λ it o4 s=>Ej (gN 4).f On.f n it (some p0::o1::o2::o3::o4::r) s kl kr
theorem Z4 (n:Nat):Z5 p0 o1 o2 o3 kr r kl n=Oq p0 (λ o4 s=>kl (some p0::o1::o2::o3::o4::r) s) n:=Mj (Os p0 (λ o4 s=>kl (some p0::o1::o2::o3::o4::r) s)) (by rfl) (λ n=>by rfl) (λ n=>rfl) n
def Ack:CS:=wkS (Gx (iK (Dn (Aa 3) (Al 1))) (gN 4) On) (λ ρ s kl kr=>ex5 ρ λ o0 o1 o2 o3 o4 r=>oC (λ p0=>oC (λ p3=>Oo p0 p3 o4 s (λ x4 t=>kl (some p0::o1::o2::some p3::x4::r) t)) o3) o0) λ ρ s kl kr=>λ e=>xc5 e λ o0 o1 o2 o3 o4 r e=>cO e λ p0 e=>cO e λ p3 e=>No (λ (F:It->Ko)=>Op p3 s λ it t=>F it o4 t) (by rfl) (Z4 p0 o1 o2 (some p3) kr r kl 200) e
def W4:Bh 153 3:=Ce 3 2 ["self","op","kids","node","kid"] (Ag (Br 3 (Cj (Ad (kC (Aa 1) kN)) (Em (kC (Aa 2) kN)))) (Ag (Bz (tIn (Aa 3) (Af 0x1d0000e600066000318001b8000ec0006f (Aa 0))) (Ag (Ay (Ak (Af 0x1d0000e600066000318001b8000ec0006f (Aa 0)) (Aa 3))) At) At) (Ag (Cn (Av false 0x198000e60006a0003b0001c8000cc00073 (Cy 229 d1.c C9) (Aa 0) (kC (Aa 1) kN))) (Ag Ack (Ag (Fe (Af 0x1d0000e600066000318001b8000ec0006f (Aa 0)) (Aa 3) (Cr (kC (Af 0x7400033000194000e00006f (Aa 0)) kN))) (Ag (Cn (B8 (Af 0x7400033000194000e00006f (Aa 0)) (kC (Aa 3) kN))) (Ag (Cn (B8 (Af 0x1d0000ea00069000340001a8000cc00078 (Aa 0)) (kC (Cj (Al 1) (Axp (kC Acj kN))) kN))) (Ag (Cn (B8 (Af 0xe8000690003a8001c4000cc00065 (Aa 0)) (kC (Cj (Al 1) (A02 (kC (Cj Aci (Fk (kC (Al 0) kN))) kN))) kN))) (Ag (Ay (Am6 (Cr (kC (Af 0x7400033000194000e00006f (Aa 0)) kN)) (Al 1))) At))))))))) rfl (λ Z=>bd3 λ Z Z Z=>rfl) (by rfl)
def Ach (g1:T2) (k:PV->PS->Bool) (p0:PV) (p1:PV) (s:PS) (v32:PV):Bool:=qM 229 (g1 p0 p1 s λ v39 s=>Oo p0 v32 none s (λ x41 s=>Au 0x7400033000194000e00006f (λ v46=>Hs [v46] s λ v44 s=>Au 0x1d0000e600066000318001b8000ec0006f (λ v47=>Od v47 v32 v44 s λ s=>Au 0x7400033000194000e00006f (λ v50=>kL v50 s (Dx [v50,v32] s λ v48 s=>Au 0x1d0000ea00069000340001a8000cc00078 (λ v53=>kL v53 s (Oj p0 v32 s (λ v58 s=>A2k [v58] s λ v56 s=>Qn (.int 1) v56 s λ v54 s=>Dx [v53,v54] s λ v51 s=>Au 0xe8000690003a8001c4000cc00065 (λ v62=>kL v62 s (Of p0 v32 s (λ v69 s=>Qn v69 (.lst [(.int 0)]) s λ v67 s=>Ayv [v67] s λ v65 s=>Qn (.int 1) v65 s λ v63 s=>Dx [v62,v63] s λ v60 s=>Au 0x7400033000194000e00006f (λ v75=>Hs [v75] s λ v73 s=>Ath v73 (.int 1) s λ v71 s=>k v71 s) p0 s))) p0 s))) p0 s)) p0 s) p0 s) p0 s)) p0 s
def W5 (p0:PV) (p1:PV) (p2:PV) (s:PS) (k:PV->PS->Bool):Bool:=Il [p2] s λ v34 s=>Qn (.tup [p1]) v34 s λ v32 s=>Au 0x1d0000e600066000318001b8000ec0006f (λ v38=>pIn v32 v38 s λ b36 s=>bC (Ach g1 k p0 p1 s v32) (Au 0x1d0000e600066000318001b8000ec0006f (λ v77=>Ar v77 v32 s λ v76=>k v76 s) p0 s) b36) p0 s
theorem Ahq:OF 153 3 (W4 d1).n (li3 (W5 d1.g)):=lw3 (W4 d1) λ p0 p1 p2 s k=>by rfl
end
def Ul:T3:=W5 L0
def Aeu:Lm 153:=⟨Ul,_,Ahq W6⟩
section
def Aeq:Bh 186 2:=Ce 2 0 ["self","n"] (Ag (Ay (Ak (Ak (Af 0x7400033000194000e00006f (Aa 0)) (Aa 1)) (Al 0))) At) rfl (λ Z=>Nr λ Z Z=>rfl) (by rfl)
def Aer (p0:PV) (p1:PV) (s:PS) (k:PV->PS->Bool):Bool:=Au 0x7400033000194000e00006f (λ v3=>Ar v3 p1 s λ v2=>Ar v2 (.int 0) s λ v1=>k v1 s) p0 s
theorem Anx:OF 186 2 Aeq.n (li2 Aer):=Qr Aeq λ p0 p1 s k=>by rfl
end
def Aba:T2:=Aer
def Al1:B1 186:=⟨Aba,_,Anx⟩
section
def W0:Bh 193 2:=Ce 2 0 ["self","n"] (Ag (Ay (Dn (Ak (Af 0x7400033000194000e00006f (Aa 0)) (Aa 1)) (Al 1))) At) rfl (λ Z=>Nr λ Z Z=>rfl) (by rfl)
def W1 (p0:PV) (p1:PV) (s:PS) (k:PV->PS->Bool):Bool:=Au 0x7400033000194000e00006f (λ v3=>Ar v3 p1 s λ v2=>Ll v2 (.int 1) λ v1=>k v1 s) p0 s
theorem Aho:OF 193 2 W0.n (li2 W1):=Qr W0 λ p0 p1 s k=>by rfl
end
def Uj:T2:=W1
def Aes:B1 193:=⟨Uj,_,Aho⟩
section
variable (g1:T1) (d1:Cg 98)
def Abs:Bh 245 2:=Ce 2 0 ["pattern","table"] (Ag (kWh (M2 (V4 (Ai d1.c (kC (Aa 0) kN))) (tIn (Ak (Aa 0) (Al 0)) (Aa 1))) (Ag (Br 0 (Ak (Aa 1) (Ak (Aa 0) (Al 0)))) At)) (Ag (Ay (Aa 0)) At)) rfl (λ Z=>Nr λ Z Z=>rfl) (by rfl)
end
def Ahv:T2:=λ p0 p1 s k=>(Abs Az).F [p0,p1] s k
def Xa:B1 245:=⟨Ahv,_,Qr (Abs Az) λ p0 p1 s k=>by rfl⟩
section
variable (g1:T1) (d1:Cg 103)
def Yj:Bh 252 3:=Ce 3 3 ["name","pattern","table","waiting","seen","late"] (Ag (Ka 3 4 (Ad (kC (Cf (kC (Aa 1) kN)) (kC C7 kN)))) (Ag (kWh (tGt (Cr (kC (Aa 3) kN)) (Al 0)) (Ag (Gx (iK (Ai d1.c (kC (As4 (Aa 3) kN) kN))) (gN 5) (Ag (Bz (tEq (Aa 5) (Aa 0)) (Ag (Ay (Dm true)) At) At) (Ag (Bz (M2 (tIn (Aa 5) (Aa 2)) (Anp (Aa 5) (Aa 4))) (Ag (Fe (Aa 4) (Aa 5) (Dm true)) (Ag (Cn (B8 (Aa 3) (kC (Ak (Aa 2) (Aa 5)) kN))) At)) At) At))) At)) (Ag (Ay (Dm false)) At))) rfl (λ Z=>bd3 λ Z Z Z=>rfl) (by rfl)
end
def Ae3:T3:=λ p0 p1 p2 s k=>(Yj Bp).F [p0,p1,p2] s k
def Uf:Lm 252:=⟨Ae3,_,lw3 (Yj Bp) λ p0 p1 p2 s k=>by rfl⟩
section
variable (g1:T2) (d1:B1 245) (g2:T1) (d2:Cg 98) (g3:T3) (d3:Lm 252)
def Aod:Bh 259 2:=Ce 2 4 ["one","other","table","waiting","here","there"] (Ag (Ka 2 3 (Ad (kC C7 (kC (Cf (kC (Ad (kC (Aa 0) (kC (Aa 1) kN))) kN)) kN)))) (Ag (kWh (tGt (Cr (kC (Aa 3) kN)) (Al 0)) (Ag (Vx (Lq (Cm (gN 4) (Cm (gN 5) Lp))) (As4 (Aa 3) kN)) (Ag (Ka 4 5 (Ad (kC (Ai d1.c (kC (Aa 4) (kC (Aa 2) kN))) (kC (Ai d1.c (kC (Aa 5) (kC (Aa 2) kN))) kN)))) (Ag (Bz (M2 (V4 (Ai d2.c (kC (Aa 5) kN))) (Y8 (V4 (Ai d2.c (kC (Aa 4) kN))))) (Ag (Ka 4 5 (Ad (kC (Aa 5) (kC (Aa 4) kN)))) At) At) (Ag (Bz (V4 (Ai d2.c (kC (Aa 4) kN))) (Ag (Bz (M2 (tNe (Aa 4) (Aa 5)) (V4 (Ai d3.c (kC (Ak (Aa 4) (Al 0)) (kC (Aa 5) (kC (Aa 2) kN)))))) (Ag (Ay Pj) At) At) (Ag (Bz (tNe (Aa 4) (Aa 5)) (Ag (Fe (Aa 2) (Ak (Aa 4) (Al 0)) (Aa 5)) At) At) At)) (Ag (Bz (Au4 (tNe (Ak (Aa 4) (Al 0)) (Ak (Aa 5) (Al 0))) (tNe (Cr (kC (Aa 4) kN)) (Cr (kC (Aa 5) kN)))) (Ag (Ay Pj) At) (Ag (Cn (A1v (Aa 3) (kC (Dn (Aa 4) (Al 1)) (kC (Dn (Aa 5) (Al 1)) kN)))) At)) At)) At))))) (Ag (Ay (Aa 2)) At))) rfl (λ Z=>Nr λ Z Z=>rfl) (by rfl)
end
def Aj4:T2:=λ p0 p1 s k=>(Aod Xa Az Uf).F [p0,p1] s k
def Aru:B1 259:=⟨Aj4,_,Qr (Aod Xa Az Uf) λ p0 p1 s k=>by rfl⟩
section
variable (g1:T1) (d1:Cg 103)
def Af3:Bh 264 1:=Ce 1 4 ["table","found","waiting","name","is_open"] (Ag (Ka 1 2 (Ad (kC C7 (kC (Tr (Wp 1 [] (iK (Rt (kC (Aa 0) kN))) (gN 0) (Ad (kC (Aa 0) (kC (Dm false) kN))))) kN)))) (Ag (kWh (tGt (Cr (kC (Aa 2) kN)) (Al 0)) (Ag (Vx (Lq (Cm (gN 3) (Cm (gN 4) Lp))) (As4 (Aa 2) kN)) (Ag (Bz (V4 (Aa 4)) (Ag (Fe (Aa 1) (Aa 3) (Dm true)) At) (Ag (Bz (Anp (Aa 3) (Aa 1)) (Ag (Cn (B8 (Aa 2) (kC (Ad (kC (Aa 3) (kC (Dm true) kN))) kN))) (Ag (Cn (Sn (Aa 2) (kC (Tr (cc2 1 [0] (iK (Ai d1.c (kC (Ak (Aa 0) (Aa 3)) kN))) (gN 0) (tIn (Aa 0) (Aa 1)) (Ad (kC (Aa 0) (kC (Dm false) kN))))) kN))) At)) At) At)) At))) (Ag (Ay (Aoa (kC (Aa 1) kN))) At))) rfl (λ Z=>Ru λ Z=>rfl) (by rfl)
end
def Al5:T1:=λ p0 s k=>(Af3 Bp).F [p0] s k
def Aa6:Cg 264:=⟨Al5,_,U7 (Af3 Bp) λ p0 s k=>by rfl⟩
section
variable (g1:T1) (d1:Cg 264) (g2:T1) (d2:Cg 108) (g3:T1) (d3:Cg 98) (g4:T2) (d4:B1 238)
def Vl:Bh 269 1:=Ce 1 4 ["table","found","sizes","name","some"] (Ag (Vx (Lq (Cm (gN 1) (Cm (gN 2) Lp))) (Ad (kC C7 (kC C7 kN)))) (Ag (Gx (iK (Ai d1.c (kC (Aa 0) kN))) (gN 3) (Ag (Ml 4 (Wp 2 [] (iK (Ai d2.c (kC (Ak (Aa 0) (Aa 3)) kN))) (Lq (Cm (gN 0) (Cm (gN 1) Lp))) (Aa 1))) (Ag (Fe (Aa 2) (Aa 3) (Axp (kC (B9 (Wp 1 [2] (iK (Aa 4)) (gN 0) (kIf (V4 (Ai d3.c (kC (Aa 0) kN))) (Vz (Aa 1) (kC (Ak (Aa 0) (Al 0)) (kC (Al 1) kN))) (Al 1)))) kN))) (Ag (Bz (tGt (Ak (Aa 2) (Aa 3)) kGi) (Ag Ig At) At) (Ag (Fe (Aa 1) (Aa 3) (Ai d4.c (kC (Ak (Aa 0) (Aa 3)) (kC (Aa 1) kN)))) At))))) (Ag (Ay (Aa 1)) At))) rfl (λ Z=>Ru λ Z=>rfl) (by rfl)
end
def Qz:T1:=λ p0 s k=>(Vl Aa6 Hb Az (Ha 12)).F [p0] s k
def Acs:Cg 269:=⟨Qz,_,U7 (Vl Aa6 Hb Az (Ha 12)) λ p0 s k=>by rfl⟩
section
variable (g1:T2) (d1:B1 259) (g2:T1) (d2:Cg 269)
def Ahb:Bh 276 2:=Ce 2 1 ["one","other","table"] (Ag (Br 2 (Ai d1.c (kC (Aa 0) (kC (Aa 1) kN)))) (Ag (Ay (kIf (tIs (Aa 2) Pj) Pj (Ai d2.c (kC (Aa 2) kN)))) At)) rfl (λ Z=>Nr λ Z Z=>rfl) (by rfl)
def Ahc (p0:PV) (p1:PV) (s:PS) (k:PV->PS->Bool):Bool:=g1 p0 p1 s λ v1 s=>(λ (j3:PV->PS->Bool)=>pIs v1 PV.none s λ b6 s=>bC (g2 v1 s λ v8 s=>j3 v8 s) (j3 PV.none s) b6) (λ v4 s=>k v4 s)
theorem Are:OF 276 2 (Ahb d1 d2).n (li2 (Ahc d1.g d2.g)):=Qr (Ahb d1 d2) λ p0 p1 s k=>by rfl
end
def Al9:T2:=Ahc Aj4 Qz
def Aa8:B1 276:=⟨Al9,_,Are Aru Acs⟩
section
variable (g1:T2) (d1:B1 127) (g2:T1) (d2:Cg 103)
def An7:Bh 281 2:=Ce 2 0 ["pattern","mark"] (Ag (Ay (Ai d1.c (kC (Aa 0) (kC (Abh (kC (Tr (Wp 1 [1] (iK (Ai d2.c (kC (Aa 0) kN))) (gN 0) (Ad (kC (Aa 0) (kC (Cj (Aa 0) (Aa 1)) kN))))) kN)) kN)))) At) rfl (λ Z=>Nr λ Z Z=>rfl) (by rfl)
end
def Arv:T2:=λ p0 p1 s k=>(An7 (Aa7 12) Bp).F [p0,p1] s k
def Aj2:B1 281:=⟨Arv,_,Qr (An7 (Aa7 12) Bp) λ p0 p1 s k=>by rfl⟩
section
def Ab3:Bh 286 2:=Ce 2 1 ["names","known","mark"] (Ag (Br 2 (Ac 40)) (Ag (kWh (tNe (B9 (cc2 1 [1,2] (iK (Aa 0)) (gN 0) (tIn (Cj (Aa 0) (Aa 2)) (Aa 1)) (Aa 0))) (Fk kN)) (Ag (Br 2 (Cj (Aa 2) (Ac 40))) At)) (Ag (Ay (Aa 2)) At))) rfl (λ Z=>Nr λ Z Z=>rfl) (by rfl)
end
def Ahw:T2:=λ p0 p1 s k=>Ab3.F [p0,p1] s k
def Xb:B1 286:=⟨Ahw,_,Qr Ab3 λ p0 p1 s k=>by rfl⟩
section
variable (g1:T2) (d1:B1 286) (g2:T1) (d2:Cg 103) (g3:T2) (d3:B1 281) (g4:T1) (d4:Cg 108) (g5:T1) (d5:Cg 98) (g6:T2) (d6:B1 276) (g7:T2) (d7:B1 238) (g8:T3) (d8:Lm 122)
def Ab5:Bh 293 2:=Ce 2 9 ["rule","other","mark","left","right","found","path","part","is_same","table","pattern"] (Ag (Br 2 (Ai d1.c (kC (Ai d2.c (kC (Af 0x3a80019c000cc0006d (Aa 1)) kN)) (kC (Ai d2.c (kC (Af 0x3a80019c000cc0006d (Aa 0)) kN)) kN)))) (Ag (A1s 3 4 5 (Ad (kC (Ai d3.c (kC (Af 0x3a80019c000cc0006d (Aa 1)) (kC (Aa 2) kN))) (kC (Ai d3.c (kC (Af 0x75000348001a0000d400073 (Aa 1)) (kC (Aa 2) kN))) (kC (Cf kN) kN))))) (Ag (Gx (iK (Ai d4.c (kC (Af 0x3a80019c000cc0006d (Aa 0)) kN))) (Lq (Cm (gN 6) (Cm (gN 7) Lp))) (Ag (Br 8 (Asu (cEq (Aa 6) (Ad kN)) (cEq (Ad (kC (Af 0x3a80019c000cc0006d (Aa 0)) (kC (Af 0x75000348001a0000d400073 (Aa 0)) kN))) (Ad (kC (Af 0x3a80019c000cc0006d (Aa 1)) (kC (Af 0x75000348001a0000d400073 (Aa 1)) kN)))))) (Ag (Br 9 (kIf (Au4 (V4 (Ai d5.c (kC (Aa 7) kN))) (V4 (Aa 8))) Pj (Ai d6.c (kC (Aa 7) (kC (Aa 3) kN))))) (Ag (Bz (Arc (Aa 9) Pj) (Ag (Br 10 (Ai d7.c (kC (Af 0x3a80019c000cc0006d (Aa 0)) (kC (Aa 9) kN)))) (Ag (Cn (B8 (Aa 5) (kC (Ad (kC (Aa 6) (kC (Aa 10) (kC (Ai d7.c (kC (Af 0x75000348001a0000d400073 (Aa 0)) (kC (Aa 9) kN))) (kC (Ai d8.c (kC (Aa 10) (kC (Aa 6) (kC (Ai d7.c (kC (Aa 4) (kC (Aa 9) kN))) kN)))) kN))))) kN))) At)) At) At)))) (Ag (Ay (Aa 5)) At)))) rfl (λ Z=>Nr λ Z Z=>rfl) (by rfl)
end
def P8:T2:=λ p0 p1 s k=>(Ab5 Xb Bp Aj2 Hb Az Aa8 (Ha 12) (Xc 12)).F [p0,p1] s k
def Ahu:B1 293:=⟨P8,_,Qr (Ab5 Xb Bp Aj2 Hb Az Aa8 (Ha 12) (Xc 12)) λ p0 p1 s k=>by rfl⟩
section
variable (g1:T1) (d1:Cg 108) (g2:T1) (d2:Cg 103) (g3:T2) (d3:B1 238)
def Sa (kn:Kp) (F:Kp) (p3:PV) (s:PS):Bool:=Ar9 (eC p3) [] s λ v13 s=>Akn (eC (.str 0x33800188000cc0006d)) (eC v13) [] s λ v11 s=>pIn v11 p1 s λ b9 s=>bC (kn p3 s) (Qn p3 (.int 1) s λ v15 s=>F v15 s) b9
def R9 (kn:Kp) (n:Nat):Kp:=@Nat.rec (λ Z=>Kp) (λ Z Z=>false) (λ Z=>Sa p1 kn) n
def R7:Np:=Ag (Br 3 (Cj (Aa 3) (Al 1))) At
def R8 (kn:Kp):Bool:=R9 p1 kn 200 p3 s
def Adp (n:Nat):Kp:=λ p3 s=>T7 (tIn (Abx (Ac 0x33800188000cc0006d) (Amu (Aa 3))) (Aa 1)).f R7.f n (o0::some p1::o2::some p3::r) s kl kr
theorem Ado (n:Nat):Adp p1 o0 o2 kr r kl n=R9 p1 (λ p3 s=>kl (o0::some p1::o2::some p3::r) s) n:=Mj (Sa p1 (λ p3 s=>kl (o0::some p1::o2::some p3::r) s)) (by rfl) (λ n=>by rfl) (λ n=>rfl) n
def Afz:CS:=wkS (kWh (tIn (Abx (Ac 0x33800188000cc0006d) (Amu (Aa 3))) (Aa 1)) R7) (λ ρ s kl kr=>ex4 ρ λ o0 o1 o2 o3 r=>oC (λ p1=>oC (λ p3=>R8 p1 p3 s (λ x3 t=>kl (o0::some p1::o2::some x3::r) t)) o3) o1) λ ρ s kl kr=>λ e=>xc4 e λ o0 o1 o2 o3 r e=>cO e λ p1 e=>cO e λ p3 e=>No (λ (F:Kp)=>F p3 s) (by rfl) (Ado p1 o0 o2 kr r kl 200) e
def Sg (kn:Kpo) (F:It->Kpo) (it:It) (p3:PV) (o4:OP) (s:PS):Bool:=G7 it s (kn p3 o4 s) λ x it=>R8 p1 p3 s (λ x26 s=>Ar9 (eC x26) [] s λ v31 s=>Akn (eC (.str 0x33800188000cc0006d)) (eC v31) [] s λ v29 s=>Od p2 x (.tup [v29]) s λ s=>Qn x26 (.int 1) s λ v33 s=>F it v33 (some x) s)
def Sf (kn:Kpo) (n:Nat):It->Kpo:=@Nat.rec (λ Z=>It->Kpo) (λ Z Z Z Z=>false) (λ Z=>Sg p1 p2 kn) n
def Se (K:It->PS->Bool):Bool:=Ar p0 (.int 1) s λ v39=>g2 v39 s λ v37 s=>Bn v37 s λ t35 s=>K t35 s
def Sb:Np:=Ag Afz (Ag (Fe (Aa 2) (Aa 4) (Ad (kC (Abx (Ac 0x33800188000cc0006d) (Amu (Aa 3))) kN))) (Ag (Br 3 (Cj (Aa 3) (Al 1))) At))
def Sd (kn:Kpo):Bool:=Se p0 s g2 λ it t=>Sf p1 p2 kn 200 it p3 o4 t
def Adr (n:Nat):It->Kpo:=λ it p3 o4 s=>Ej (gN 4).f Sb.f n it (o0::some p1::some p2::some p3::o4::r) s kl kr
theorem Adq (n:Nat):Adr p1 p2 o0 kr r kl n=Sf p1 p2 (λ p3 o4 s=>kl (o0::some p1::some p2::some p3::o4::r) s) n:=Mj (Sg p1 p2 (λ p3 o4 s=>kl (o0::some p1::some p2::some p3::o4::r) s)) (by rfl) (λ n=>by rfl) (λ n=>rfl) n
def Af0:CS:=wkS (Gx (iK (Ai d2.c (kC (Ak (Aa 0) (Al 1)) kN))) (gN 4) Sb) (λ ρ s kl kr=>ex5 ρ λ o0 o1 o2 o3 o4 r=>oC (λ p0=>oC (λ p1=>oC (λ p2=>oC (λ p3=>Sd p0 p1 p2 p3 o4 s d2.g (λ x3 x4 t=>kl (some p0::some p1::some p2::some x3::x4::r) t)) o3) o2) o1) o0) λ ρ s kl kr=>λ e=>xc5 e λ o0 o1 o2 o3 o4 r e=>cO e λ p0 e=>cO e λ p1 e=>cO e λ p2 e=>cO e λ p3 e=>No (λ (F:It->Kpo)=>Se p0 s d2.g λ it t=>F it p3 o4 t) (by rfl) (Adq p1 p2 (some p0) kr r kl 200) e
def Fj (κ:KA) (F:PV->PV->It->KA) (it:It) (acc:List PV) (b:Nat) (s:PS):Bool:=G7 it s (κ acc b s) λ x it=>Ht x s λ l40=>bC false (lC false (λ x41 l42=>lC false (λ x43 l44=>lC (Ar x43 (.int 0) s λ v45=>@Nat.rec (λ Z=>Bool) false (λ b Z=>F x41 x43 it ((.tup [v45,(.bool true)])::acc) b s) b) F2 l44) l42) l40) (Nat.beq (len l40) 2)
def R6 (κ:KA) (n:Nat):It->KA:=@Nat.rec (λ Z=>It->KA) (λ Z Z Z Z=>false) (λ Z ih=>Fj κ λ Z Z=>ih) n
def Ib (KK:Ax->KA) (n:Nat) (it:It) (o0:OP) (o1:OP) (o2:OP):KA:=λ acc b s=>Bl (Lq (Cm (gN 1) (Cm (gN 2) Lp))).f (Be (Ad (kC (Ak (Aa 2) (Al 0)) (kC (Dm true) kN))).f) n it [o0,o1,o2] acc b s KK
theorem Adm (KK:Ax->KA) (κ:KA) (H:∀ (o0:OP) (o1:OP) (o2:OP),KK [o0,o1,o2]=κ) (n:Nat):∀ (it:It) (o0:OP) (o1:OP) (o2:OP),Ib KK n it o0 o1 o2=R6 κ n it:=by
 induction n with
 | zero=>exact λ it o0 o1 o2=>by rfl
 | succ n ih=>exact λ it o0 o1 o2=>Eq.trans (b:=Fj (KK [o0,o1,o2]) (λ t1 t2 it=>Ib KK n it o0 (some t1) (some t2)) it) (by rfl) ((congrArg (λ x=>Fj x _ it) (H o0 o1 o2)).trans (congrArg (λ F=>Fj κ F it) (funext λ t1=>funext λ t2=>funext λ it=>ih it o0 (some t1) (some t2))))
def Ie (κ:KA) (F:PV->It->It->KA) (it:It) (acc:List PV) (b:Nat) (s:PS):Bool:=G7 it s (κ acc b s) λ x it=>g1 x s λ v48 s=>Bn v48 s λ t46 s=>F x it t46 acc b s
def Ic (κ:KA) (n:Nat):It->KA:=@Nat.rec (λ Z=>It->KA) (λ Z Z Z Z=>false) (λ Z ih=>Ie g1 κ λ p0 it=>R6 (ih it) 200) n
def Adn (κ:KA) (n:Nat) (it:It) (o0:OP) (o1:OP) (o2:OP):KA:=λ acc b s=>Bl (gN 0).f (Tk 200 (iK (Ai d1.c (kC (Aa 0) kN))).f (Lq (Cm (gN 1) (Cm (gN 2) Lp))).f (Be (Ad (kC (Ak (Aa 2) (Al 0)) (kC (Dm true) kN))).f)) n it [o0,o1,o2] acc b s λ Z=>κ
theorem Adl (κ:KA) (n:Nat):∀ (it:It) (o0:OP) (o1:OP) (o2:OP),Adn d1 κ n it o0 o1 o2=Ic d1.g κ n it:=by
 induction n with
 | zero=>exact λ it o0 o1 o2=>by rfl
 | succ n ih=>exact λ it o0 o1 o2=>Eq.trans (b:=Ie d1.g κ (λ t0 it it2=>Ib (λ ρ acc b s=>Bl (gN 0).f (Tk 200 (iK (Ai d1.c (kC (Aa 0) kN))).f (Lq (Cm (gN 1) (Cm (gN 2) Lp))).f (Be (Ad (kC (Ak (Aa 2) (Al 0)) (kC (Dm true) kN))).f)) n it ρ acc b s λ Z=>κ) 200 it2 (some t0) o1 o2) it) (by rfl) (congrArg (λ F=>Ie d1.g κ F it) (funext λ t0=>funext λ it=>funext λ it2=>Adm (λ ρ acc b s=>Bl (gN 0).f (Tk 200 (iK (Ai d1.c (kC (Aa 0) kN))).f (Lq (Cm (gN 1) (Cm (gN 2) Lp))).f (Be (Ad (kC (Ak (Aa 2) (Al 0)) (kC (Dm true) kN))).f)) n it ρ acc b s λ Z=>κ) (Ic d1.g κ n it) (λ o0 o1 o2=>ih it o0 o1 o2) 200 it2 (some t0) o1 o2))
def R5 (K:It->PS->Bool):Bool:=Ll p0 (.int 1) λ v52=>Bn v52 s λ t50 s=>K t50 s
def R4:Bool:=R5 p0 s λ it t=>Ic g1 (λ acc Z t=>Am (.list (rv acc)) t λ i t=>k (.obj i) t) 200 it [] Bv t
def Afy:CE:=wkE (Tr (cc3 3 [] (iK (Dn (Aa 0) (Al 1))) (gN 0) (iK (Ai d1.c (kC (Aa 0) kN))) (Lq (Cm (gN 1) (Cm (gN 2) Lp))) (Ad (kC (Ak (Aa 2) (Al 0)) (kC (Dm true) kN))))) (λ ρ s k=>ex1 ρ λ o0 r=>oC (λ p0=>R4 p0 s k d1.g) o0) λ ρ s k=>λ e=>xc1 e λ o0 r e=>cO e λ p0 e=>No (λ (F:It->KA)=>R5 p0 s λ it t=>F it [] Bv t) (by rfl) (funext λ it=>Adl d1 (λ acc Z t=>Am (.list (rv acc)) t λ i t=>k (.obj i) t) 200 it none none none) e
def Abu:Bh 298 1:=Ce 1 4 ["overlap","known","table","k","name"] (Ag (Br 1 (Abh (kC (Afy d1) kN))) (Ag (Ka 2 3 (Ad (kC C7 (kC (Al 0) kN)))) (Ag (Af0 d2) (Ag (Ay (Ad (kC (Ai d3.c (kC (Ak (Aa 0) (Al 2)) (kC (Aa 2) kN))) (kC (Ai d3.c (kC (Ak (Aa 0) (Al 3)) (kC (Aa 2) kN))) kN)))) At)))) rfl (λ Z=>Ru λ Z=>rfl) (by rfl)
def Abv (p0:PV) (s:PS) (k:PV->PS->Bool):Bool:=R4 p0 s (λ v55 s=>Ab6 [v55] s λ v53 s=>Am (.dict [] true) s λ i57 s=>Sd p0 v53 (.obj i57) (PV.int 0) none s g2 (λ x59 x60 s=>Ar p0 (.int 2) s λ v64=>g3 v64 (.obj i57) s λ v62 s=>Ar p0 (.int 3) s λ v67=>g3 v67 (.obj i57) s λ v65 s=>k (.tup [v62,v65]) s)) g1
theorem Amr:OF 298 1 (Abu d1 d2 d3).n (li1 (Abv d1.g d2.g d3.g)):=U7 (Abu d1 d2 d3) λ p0 s k=>by rfl
end
def Xi:T1:=Abv (Acu 12) Ur (Xh 12)
def Aht:Cg 298:=⟨Xi,_,Amr Hb Bp (Ha 12)⟩
section
def I3 (kn:Kp) (F:Kp) (p1:PV) (s:PS):Bool:=Au 0x660003b8001c0000c600062 (λ v10=>Ar v10 p1 s λ v9=>pNe v9 p1 s λ b7 s=>bC (kn p1 s) (Au 0x660003b8001c0000c600062 (λ v12=>Ar v12 p1 s λ v11=>F v11 s) p0 s) b7) p0 s
def I2 (kn:Kp) (n:Nat):Kp:=@Nat.rec (λ Z=>Kp) (λ Z Z=>false) (λ Z=>I3 p0 kn) n
def I0:Np:=Ag (Br 1 (Ak (Af 0x660003b8001c0000c600062 (Aa 0)) (Aa 1))) At
def I1 (kn:Kp):Bool:=I2 p0 kn 200 p1 s
def Vt (n:Nat):Kp:=λ p1 s=>T7 (tNe (Ak (Af 0x660003b8001c0000c600062 (Aa 0)) (Aa 1)) (Aa 1)).f I0.f n (some p0::some p1::r) s kl kr
theorem Vs (n:Nat):Vt p0 kr r kl n=I2 p0 (λ p1 s=>kl (some p0::some p1::r) s) n:=Mj (I3 p0 (λ p1 s=>kl (some p0::some p1::r) s)) (by rfl) (λ n=>by rfl) (λ n=>rfl) n
def X0:CS:=wkS (kWh (tNe (Ak (Af 0x660003b8001c0000c600062 (Aa 0)) (Aa 1)) (Aa 1)) I0) (λ ρ s kl kr=>ex2 ρ λ o0 o1 r=>oC (λ p0=>oC (λ p1=>I1 p0 p1 s (λ x1 t=>kl (some p0::some x1::r) t)) o1) o0) λ ρ s kl kr=>λ e=>xc2 e λ o0 o1 r e=>cO e λ p0 e=>cO e λ p1 e=>No (λ (F:Kp)=>F p1 s) (by rfl) (Vs p0 kr r kl 200) e
def Rm:Bh 347 2:=Ce 2 0 ["self","a"] (Ag X0 (Ag (Ay (Aa 1)) At)) rfl (λ Z=>Nr λ Z Z=>rfl) (by rfl)
def Rn (p0:PV) (p1:PV) (s:PS) (k:PV->PS->Bool):Bool:=I1 p0 p1 s (λ x13 s=>k x13 s)
theorem Ac3:OF 347 2 Rm.n (li2 Rn):=Qr Rm λ p0 p1 s k=>by rfl
end
def Eb:T2:=Rn
def Gp:B1 347:=⟨Eb,_,Ac3⟩
section
variable (g1:T2) (d1:B1 347)
def Pf:Bh 354 3:=Ce 3 2 ["self","a","b","kept","gone"] (Ag (Vx (Lq (Cm (gN 3) (Cm (gN 4) Lp))) (Rt (kC (Fk (kC (Av false 0x328001bc000d400067 (Cy 390 d1.c C9) (Aa 0) (kC (Aa 1) kN)) (kC (Av false 0x328001bc000d400067 (Cy 390 d1.c C9) (Aa 0) (kC (Aa 2) kN)) kN))) kN))) (Ag (Bz (tEq (Aa 3) (Aa 4)) (Ag (Ay Pj) At) At) (Ag (Fe (Af 0x660003b8001c0000c600062 (Aa 0)) (Aa 4) (Aa 3)) (Ag (Cn (Sn (Ak (Af 0x3a0001d4000e00006d (Aa 0)) (Aa 3)) (kC (Ak (Af 0x3a0001d4000e00006d (Aa 0)) (Aa 4)) kN))) (Ag (Cn (B8 (Af 0xca00066000340001cc000cc0006e (Aa 0)) (kC (Ad (kC (Aa 3) (kC (Aa 4) kN))) kN))) (Ag (Ay (Ad (kC (Aa 3) (kC (Aa 4) kN)))) At)))))) rfl (λ Z=>bd3 λ Z Z Z=>rfl) (by rfl)
def Vv (k:PV->PS->Bool) (p0:PV) (s:PS) (x10:PV) (x8:PV):Bool:=Au 0x660003b8001c0000c600062 (λ v15=>Od v15 x10 x8 s λ s=>Au 0x3a0001d4000e00006d (λ v19=>Ar v19 x8 s λ v18=>kL v18 s (Au 0x3a0001d4000e00006d (λ v21=>Ar v21 x10 s λ v20=>Gm [v18,v20] s λ v16 s=>Au 0xca00066000340001cc000cc0006e (λ v24=>kL v24 s (Dx [v24,(.tup [x8,x10])] s λ v22 s=>k (.tup [x8,x10]) s)) p0 s) p0 s)) p0 s) p0 s
def Pg (p0:PV) (p1:PV) (p2:PV) (s:PS) (k:PV->PS->Bool):Bool:=qM 390 (g1 p0 p1 s λ v3 s=>qM 390 (g1 p0 p2 s λ v5 s=>Ss [(.lst [v3,v5])] s λ v1 s=>Ht v1 s λ l7=>bC false (lC false (λ x8 l9=>lC false (λ x10 l11=>lC (pEq x8 x10 s λ b12 s=>bC (Vv k p0 s x10 x8) (k PV.none s) b12) F2 l11) l9) l7) (Nat.beq (len l7) 2)) p0 s) p0 s
theorem Aam:OF 354 3 (Pf d1).n (li3 (Pg d1.g)):=lw3 (Pf d1) λ p0 p1 p2 s k=>by rfl
end
def L5:T3:=Pg Eb
def W9:Lm 354:=⟨L5,_,Aam Gp⟩
section
variable (g1:T3) (d1:Lm 354)
def Xn:Bh 465 4:=Ce 4 3 ["self","a","b","reason","merged","kept","gone"] (Ag (Cn (B8 (Af 0x74000330001a0000ca00066 (Aa 0)) (kC (Ad (kC (Aa 1) (kC (Aa 2) (kC (Aa 3) kN)))) kN))) (Ag (Br 4 (Av false 0x66000340001cc000cc0006e (Cy 390 d1.c C9) (Af 0xe80006f000380001a8000de00076 (Aa 0)) (kC (Aa 1) (kC (Aa 2) kN)))) (Ag (Bz (tIs (Aa 4) Pj) (Ag (Ay (Dm false)) At) At) (Ag (Vx (Lq (Cm (gN 5) (Cm (gN 6) Lp))) (Aa 4)) (Ag (Cn (B8 (Af 0xea00074000330001cc000e000067 (Aa 0)) (kC (Am6 (Cr (kC (Af 0x74000330001a0000ca00066 (Aa 0)) kN)) (Al 1)) kN))) (Ag (Cn (Sn (Af 0x1a0000de0006a0003a8001a8000c400078 (Aa 0)) (kC (Ak (Af 0x660003b8001c0000c600062 (Aa 0)) (Aa 6)) kN))) (Ag (Fe (Af 0x660003b8001c0000c600062 (Aa 0)) (Aa 5) (Apy (Ak (Af 0x660003b8001c0000c600062 (Aa 0)) (Aa 5)) (A15 (Af 0x660003b8001c0000c600062 (Aa 0)) (kC (Aa 6) kN)))) (Ag (Ay (Dm true)) At)))))))) rfl (λ Z=>bd4 λ Z Z Z Z=>rfl) (by rfl)
def Xo (p0:PV) (p1:PV) (p2:PV) (p3:PV) (s:PS) (k:PV->PS->Bool):Bool:=Au 0x74000330001a0000ca00066 (λ v3=>kL v3 s (Dx [v3,(.tup [p1,p2,p3])] s λ v1 s=>Au 0xe80006f000380001a8000de00076 (λ v6=>qM 390 (g1 v6 p1 p2 s λ v4 s=>pIs v4 PV.none s λ b7 s=>bC (Ht v4 s λ l9=>bC false (lC false (λ x10 l11=>lC false (λ x12 l13=>lC (Au 0xea00074000330001cc000e000067 (λ v16=>kL v16 s (Au 0x74000330001a0000ca00066 (λ v21=>Hs [v21] s λ v19 s=>Ath v19 (.int 1) s λ v17 s=>Dx [v16,v17] s λ v14 s=>Au 0x1a0000de0006a0003a8001a8000c400078 (λ v24=>kL v24 s (Au 0x660003b8001c0000c600062 (λ v26=>Ar v26 x12 s λ v25=>Gm [v24,v25] s λ v22 s=>Au 0x660003b8001c0000c600062 (λ v31=>Ar v31 x10 s λ v30=>Au 0x660003b8001c0000c600062 (λ v34=>kD v34 s (Awk [v34,x12] s λ v32 s=>All v30 v32 s λ v28 s=>Au 0x660003b8001c0000c600062 (λ v35=>Od v35 x10 v28 s λ s=>k (.bool true) s) p0 s)) p0 s) p0 s) p0 s)) p0 s) p0 s)) p0 s) F2 l13) l11) l9) (Nat.beq (len l9) 2)) (k (.bool false) s) b7) v6 s) p0 s)) p0 s
theorem Ahz:OF 465 4 (Xn d1).n (li4 (Xo d1.g)):=lw4 (Xn d1) λ p0 p1 p2 p3 s k=>by rfl
end
def Um:T4:=Xo L5
def Lu:CD4 465:=⟨Um,_,Ahz W9⟩
section
variable (g1:T2) (d1:B1 347)
def Xk:Bh 444 2:=Ce 2 0 ["self","n"] (Ag (Ay (Av false 0x328001bc000d400067 (Cy 390 d1.c C9) (Af 0xe80006f000380001a8000de00076 (Aa 0)) (kC (Aa 1) kN))) At) rfl (λ Z=>Nr λ Z Z=>rfl) (by rfl)
def Xl (p0:PV) (p1:PV) (s:PS) (k:PV->PS->Bool):Bool:=Au 0xe80006f000380001a8000de00076 (λ v3=>qM 390 (g1 v3 p1 s λ v1 s=>k v1 s) v3 s) p0 s
theorem Ahy:OF 444 2 (Xk d1).n (li2 (Xl d1.g)):=Qr (Xk d1) λ p0 p1 s k=>by rfl
end
def Ee:T2:=Xl Eb
def Dj:B1 444:=⟨Ee,_,Ahy Gp⟩
section
variable (g1:T2) (d1:B1 186) (g2:T2) (d2:B1 193) (g3:T2) (d3:B1 444)
def Gu (κ:KA) (F:PV->It->KA) (it:It) (acc:List PV) (b:Nat) (s:PS):Bool:=G7 it s (κ acc b s) λ x it=>qM 520 (g3 p1 x s λ v1 s=>@Nat.rec (λ Z=>Bool) false (λ b Z=>F x it (v1::acc) b s) b) p1 s
def Pa (κ:KA) (n:Nat):It->KA:=@Nat.rec (λ Z=>It->KA) (λ Z Z Z Z=>false) (λ Z ih=>Gu p1 g3 κ λ Z=>ih) n
def O8 (κ:KA) (n:Nat) (it:It) (o0:OP):KA:=λ acc b s=>Bl (gN 0).f (Be (Av false 0x328001bc000d400067 (Cy 520 d3.c C9) (Aa 1) (kC (Aa 0) kN)).f) n it [o0,some p1] acc b s λ Z=>κ
theorem Aah (κ:KA) (n:Nat):∀ (it:It) (o0:OP),O8 p1 d3 κ n it o0=Pa p1 d3.g κ n it:=by
 induction n with
 | zero=>exact λ it o0=>by rfl
 | succ n ih=>exact λ it o0=>Eq.trans (b:=Gu p1 d3.g κ (λ t0 it=>O8 p1 d3 κ n it (some t0)) it) (by rfl) (congrArg (λ F=>Gu p1 d3.g κ F it) (funext λ t0=>funext λ it=>ih it (some t0)))
def O9 (K:It->PS->Bool):Bool:=Au 0x360001bc000c400063 (λ v7=>qM 229 (g2 v7 p1 s λ v5 s=>Bn v5 s λ t3 s=>K t3 s) v7 s) p0 s
def O7:Bool:=O9 p0 p1 s g2 λ it t=>Pa p0 g3 (λ acc Z t=>k (.lst (rv acc)) t) 200 it [] Bv t
def Acy:CE:=wkE (B9 (Wp 1 [0] (iK (Av false 0x3a000194000d40006c (Cy 229 d2.c C9) (Af 0x360001bc000c400063 (Aa 0)) (kC (Aa 1) kN))) (gN 0) (Av false 0x328001bc000d400067 (Cy 520 d3.c C9) (Aa 1) (kC (Aa 0) kN)))) (λ ρ s k=>ex2 ρ λ o0 o1 r=>oC (λ p0=>oC (λ p1=>O7 p0 p1 s k d2.g d3.g) o1) o0) λ ρ s k=>λ e=>xc2 e λ o0 o1 r e=>cO e λ p0 e=>cO e λ p1 e=>No (λ (F:It->KA)=>O9 p0 p1 s d2.g λ it t=>F it [] Bv t) (by rfl) (funext λ it=>Aah p0 d3 (λ acc Z t=>k (.lst (rv acc)) t) 200 it none) e
def Xp:Bh 420 2:=Ce 2 0 ["self","n"] (Ag (Ay (Cj (Ad (kC (Av false 236978288 (Cy 229 d1.c C9) (Af 0x360001bc000c400063 (Aa 0)) (kC (Aa 1) kN)) kN)) (Em (kC (Acy d2 d3) kN)))) At) rfl (λ Z=>Nr λ Z Z=>rfl) (by rfl)
def Xq (p0:PV) (p1:PV) (s:PS) (k:PV->PS->Bool):Bool:=Au 0x360001bc000c400063 (λ v12=>qM 229 (g1 v12 p1 s λ v10 s=>O7 p0 p1 s (λ v15 s=>Il [v15] s λ v13 s=>Qn (.tup [v10]) v13 s λ v8 s=>k v8 s) g2 g3) v12 s) p0 s
theorem Ah0:OF 420 2 (Xp d1 d2 d3).n (li2 (Xq d1.g d2.g d3.g)):=Qr (Xp d1 d2 d3) λ p0 p1 s k=>by rfl
end
def Ae1:T2:=Xq Aba Uj Ee
def Gf:B1 420:=⟨Ae1,_,Ah0 Al1 Aes Dj⟩
section
variable (g1:T2) (d1:B1 420) (g2:T2) (d2:B1 444) (g3:T4) (d3:CD4 465)
def O4:Bh 437 2:=Ce 2 1 ["self","n","other"] (Ag (Br 2 (Ak8 (Af 0x6f0003c0001c0000de0006c (Aa 0)) (kC (Av false 0x33000194000e00006f (Cy 520 d1.c C9) (Aa 0) (kC (Aa 1) kN)) (kC (Aa 1) kN)))) (Ag (Bz (tNe (Av false 0x328001bc000d400067 (Cy 520 d2.c C9) (Aa 0) (kC (Aa 2) kN)) (Av false 0x328001bc000d400067 (Cy 520 d2.c C9) (Aa 0) (kC (Aa 1) kN))) (Ag (Cn (Av false 0x378001a8000e00006b (Cy 520 d3.c C9) (Aa 0) (kC (Aa 2) (kC (Aa 1) (kC (Ad (kC (Ac 0x330001b0000d40006d) kN)) kN))))) At) At) At)) rfl (λ Z=>Nr λ Z Z=>rfl) (by rfl)
end
def L2:T2:=λ p0 p1 s k=>(O4 Gf Dj Lu).F [p0,p1] s k
def Ft:B1 437:=⟨L2,_,Qr (O4 Gf Dj Lu) λ p0 p1 s k=>by rfl⟩
section
def Rp:Bh 333 1:=Ce 1 0 ["self"] (Ag (Cn (B8 (Af 0x660003b8001c0000c600062 (Aa 0)) (kC (Cr (kC (Af 0x660003b8001c0000c600062 (Aa 0)) kN)) kN))) (Ag (Cn (B8 (Af 0x3a0001d4000e00006d (Aa 0)) (kC (Cf (kC (Cr (kC (Af 0x3a0001d4000e00006d (Aa 0)) kN)) kN)) kN))) (Ag (Ay (Am6 (Cr (kC (Af 0x660003b8001c0000c600062 (Aa 0)) kN)) (Al 1))) At))) rfl (λ Z=>Ru λ Z=>rfl) (by rfl)
end
def Oz:T1:=λ p0 s k=>Rp.F [p0] s k
def Z8:Cg 333:=⟨Oz,_,U7 Rp λ p0 s k=>by rfl⟩
section
def Rq:Bh 340 1:=Ce 1 0 ["self"] (Ag (Ay (Cr (kC (Af 0x660003b8001c0000c600062 (Aa 0)) kN))) At) rfl (λ Z=>Ru λ Z=>rfl) (by rfl)
def Rr (p0:PV) (s:PS) (k:PV->PS->Bool):Bool:=Au 0x660003b8001c0000c600062 (λ v3=>Hs [v3] s λ v1 s=>k v1 s) p0 s
theorem Ac4:OF 340 1 Rq.n (li1 Rr):=U7 Rq λ p0 s k=>by rfl
end
def O0:T1:=Rr
def Z9:Cg 340:=⟨O0,_,Ac4⟩
section
variable (g1:T3) (d1:Lm 153) (g2:T1) (d2:Cg 340) (g3:T1) (d3:Cg 333) (g4:T2) (d4:B1 444) (g5:T2) (d5:B1 437)
def Hz (κ:KA) (F:PV->It->KA) (it:It) (acc:List PV) (b:Nat) (s:PS):Bool:=G7 it s (κ acc b s) λ x it=>qM 520 (g4 p1 x s λ v1 s=>@Nat.rec (λ Z=>Bool) false (λ b Z=>F x it (v1::acc) b s) b) p1 s
def Q3 (κ:KA) (n:Nat):It->KA:=@Nat.rec (λ Z=>It->KA) (λ Z Z Z Z=>false) (λ Z ih=>Hz p1 g4 κ λ Z=>ih) n
def Q1 (κ:KA) (n:Nat) (it:It) (o0:OP):KA:=λ acc b s=>Bl (gN 0).f (Be (Av false 0x328001bc000d400067 (Cy 520 d4.c C9) (Aa 1) (kC (Aa 0) kN)).f) n it [o0,some p1] acc b s λ Z=>κ
theorem Acv (κ:KA) (n:Nat):∀ (it:It) (o0:OP),Q1 p1 d4 κ n it o0=Q3 p1 d4.g κ n it:=by
 induction n with
 | zero=>exact λ it o0=>by rfl
 | succ n ih=>exact λ it o0=>Eq.trans (b:=Hz p1 d4.g κ (λ t0 it=>Q1 p1 d4 κ n it (some t0)) it) (by rfl) (congrArg (λ F=>Hz p1 d4.g κ F it) (funext λ t0=>funext λ it=>ih it (some t0)))
def Q2 (K:It->PS->Bool):Bool:=Bn p2 s λ t3 s=>K t3 s
def Q0:Bool:=Q2 p2 s λ it t=>Q3 p0 g4 (λ acc Z t=>k (.lst (rv acc)) t) 200 it [] Bv t
def Ae5:CE:=wkE (B9 (Wp 1 [0] (iK (Aa 2)) (gN 0) (Av false 0x328001bc000d400067 (Cy 520 d4.c C9) (Aa 1) (kC (Aa 0) kN)))) (λ ρ s k=>ex3 ρ λ o0 o1 o2 r=>oC (λ p0=>oC (λ p2=>Q0 p0 p2 s k d4.g) o2) o0) λ ρ s k=>λ e=>xc3 e λ o0 o1 o2 r e=>cO e λ p0 e=>cO e λ p2 e=>No (λ (F:It->KA)=>Q2 p2 s λ it t=>F it [] Bv t) (by rfl) (funext λ it=>Acv p0 d4 (λ acc Z t=>k (.lst (rv acc)) t) 200 it none) e
def Q9 (kn:Ko) (F:It->Ko) (it:It) (o4:OP) (s:PS):Bool:=G7 it s (kn o4 s) λ x it=>Au 0x660003b8001c0000c600062 (λ v12=>Ar v12 x s λ v11=>kL v11 s (Dx [v11,p3] s λ v9 s=>F it (some x) s)) p0 s
def Q7 (kn:Ko) (n:Nat):It->Ko:=@Nat.rec (λ Z=>It->Ko) (λ Z Z Z=>false) (λ Z=>Q9 p0 p3 kn) n
def Q6 (K:It->PS->Bool):Bool:=Q0 p0 p2 s (λ v17 s=>Mh (eC v17) [] s λ v15 s=>Bn v15 s λ t13 s=>K t13 s) g4
def Q4:Np:=Ag (Cn (B8 (Ak (Af 0x660003b8001c0000c600062 (Aa 0)) (Aa 4)) (kC (Aa 3) kN))) At
def Q5 (kn:Ko):Bool:=Q6 p0 p2 s g4 λ it t=>Q7 p0 p3 kn 200 it o4 t
def Acx (n:Nat):It->Ko:=λ it o4 s=>Ej (gN 4).f Q4.f n it (some p0::o1::o2::some p3::o4::r) s kl kr
theorem Acw (n:Nat):Acx p0 p3 o1 o2 kr r kl n=Q7 p0 p3 (λ o4 s=>kl (some p0::o1::o2::some p3::o4::r) s) n:=Mj (Q9 p0 p3 (λ o4 s=>kl (some p0::o1::o2::some p3::o4::r) s)) (by rfl) (λ n=>by rfl) (λ n=>rfl) n
def Ae6:CS:=wkS (Gx (iK (Si (Ae5 d4))) (gN 4) Q4) (λ ρ s kl kr=>ex5 ρ λ o0 o1 o2 o3 o4 r=>oC (λ p0=>oC (λ p2=>oC (λ p3=>Q5 p0 p2 p3 o4 s d4.g (λ x4 t=>kl (some p0::o1::some p2::some p3::x4::r) t)) o3) o2) o0) λ ρ s kl kr=>λ e=>xc5 e λ o0 o1 o2 o3 o4 r e=>cO e λ p0 e=>cO e λ p2 e=>cO e λ p3 e=>No (λ (F:It->Ko)=>Q6 p0 p2 s d4.g λ it t=>F it o4 t) (by rfl) (Acw p0 p3 o1 (some p2) kr r kl 200) e
def Abb:Bh 425 3:=Ce 3 2 ["self","op","numbers","n","c"] (Ag (Br 3 (Av false 0x330001b0000c400075 (Cy 229 d1.c C9) (Af 0x360001bc000c400063 (Aa 0)) (kC (Aa 1) (kC (Aa 2) kN)))) (Ag (Bz (tLt (Aa 3) (Av false 0x330001ec000d400074 (Cy 390 d2.c C9) (Af 0xe80006f000380001a8000de00076 (Aa 0)) kN)) (Ag (Ay (Aa 3)) At) At) (Ag (Cn (Av false 0x330001b0000c40006e (Cy 390 d3.c C9) (Af 0xe80006f000380001a8000de00076 (Aa 0)) kN)) (Ag (Fe (Af 0x660003b8001c0000c600062 (Aa 0)) (Aa 3) (Cf kN)) (Ag (Ae6 d4) (Ag (Cn (Av false 0x1d4000c400060000360001c0000e00006d (Cy 520 d5.c C9) (Aa 0) (kC (Aa 3) kN))) (Ag (Ay (Aa 3)) At))))))) rfl (λ Z=>bd3 λ Z Z Z=>rfl) (by rfl)
def Ae4 (g3:T1) (g4:T2) (g5:T2) (k:PV->PS->Bool) (p0:PV) (p2:PV) (s:PS) (v19:PV):Bool:=Au 0xe80006f000380001a8000de00076 (λ v29=>qM 390 (g3 v29 s λ v27 s=>Am (.list []) s λ i31 s=>Au 0x660003b8001c0000c600062 (λ v33=>Od v33 v19 (.obj i31) s λ s=>Q5 p0 p2 v19 none s g4 (λ x34 s=>qM 520 (g5 p0 v19 s λ v36 s=>k v19 s) p0 s)) p0 s) v29 s) p0 s
def Abc (p0:PV) (p1:PV) (p2:PV) (s:PS) (k:PV->PS->Bool):Bool:=Au 0x360001bc000c400063 (λ v21=>qM 229 (g1 v21 p1 p2 s λ v19 s=>Au 0xe80006f000380001a8000de00076 (λ v26=>qM 390 (g2 v26 s λ v24 s=>pLt v19 v24 s λ b22 s=>bC (Ae4 g3 g4 g5 k p0 p2 s v19) (k v19 s) b22) v26 s) p0 s) v21 s) p0 s
theorem Ama:OF 425 3 (Abb d1 d2 d3 d4 d5).n (li3 (Abc d1.g d2.g d3.g d4.g d5.g)):=lw3 (Abb d1 d2 d3 d4 d5) λ p0 p1 p2 s k=>by rfl
end
def P5:T3:=Abc Ul O0 Oz Ee L2
def W7:Lm 425:=⟨P5,_,Ama Aeu Z9 Z8 Dj Ft⟩
section
variable (g0:T2) (d0:B1 430) (g1:T3) (d1:Lm 425)
def H0 (κ:KA) (F:PV->It->KA) (it:It) (acc:List PV) (b:Nat) (s:PS):Bool:=G7 it s (κ acc b s) λ x it=>qM 520 (g0 p1 x s λ v1 s=>@Nat.rec (λ Z=>Bool) false (λ b Z=>F x it (v1::acc) b s) b) p1 s
def Rd (κ:KA) (n:Nat):It->KA:=@Nat.rec (λ Z=>It->KA) (λ Z Z Z Z=>false) (λ Z ih=>H0 p1 g0 κ λ Z=>ih) n
def Rb (κ:KA) (n:Nat) (it:It) (o0:OP):KA:=λ acc b s=>Bl (gN 0).f (Be (Av false 514571689263217 (Cy 520 d0.c C9) (Aa 1) (kC (Aa 0) kN)).f) n it [o0,some p1] acc b s λ Z=>κ
theorem Acz (κ:KA) (n:Nat):∀ (it:It) (o0:OP),Rb p1 d0 κ n it o0=Rd p1 d0.g κ n it:=by
 induction n with
 | zero=>exact λ it o0=>by rfl
 | succ n ih=>exact λ it o0=>Eq.trans (b:=H0 p1 d0.g κ (λ t0 it=>Rb p1 d0 κ n it (some t0)) it) (by rfl) (congrArg (λ F=>H0 p1 d0.g κ F it) (funext λ t0=>funext λ it=>ih it (some t0)))
def Rc (K:It->PS->Bool):Bool:=Ll p1 (.int 1) λ v5=>Bn v5 s λ t3 s=>K t3 s
def Ra:Bool:=Rc p1 s λ it t=>Rd p0 g0 (λ acc Z t=>k (.lst (rv acc)) t) 200 it [] Bv t
def Ae8:CE:=wkE (B9 (Wp 1 [0] (iK (Dn (Aa 1) (Al 1))) (gN 0) (Av false 514571689263217 (Cy 520 d0.c C9) (Aa 1) (kC (Aa 0) kN)))) (λ ρ s k=>ex2 ρ λ o0 o1 r=>oC (λ p0=>oC (λ p1=>Ra p0 p1 s k d0.g) o1) o0) λ ρ s k=>λ e=>xc2 e λ o0 o1 r e=>cO e λ p0 e=>cO e λ p1 e=>No (λ (F:It->KA)=>Rc p1 s λ it t=>F it [] Bv t) (by rfl) (funext λ it=>Acz p0 d0 (λ acc Z t=>k (.lst (rv acc)) t) 200 it none) e
def Abd:Bh 430 2:=Ce 2 0 ["self","term"] (Ag (Ay (Av false 444202909433954 (Cy 520 d1.c C9) (Aa 0) (kC (Ak (Aa 1) (Al 0)) (kC (Em (kC (Ae8 d0) kN)) kN)))) At) rfl (λ Z=>Nr λ Z Z=>rfl) (by rfl)
def Abe (p0:PV) (p1:PV) (s:PS) (k:PV->PS->Bool):Bool:=qM 520 (Ar p1 (.int 0) s λ v8=>Ra p0 p1 s (λ v11 s=>Il [v11] s λ v9 s=>g1 p0 v8 v9 s λ v6 s=>k v6 s) g0) p0 s
theorem Amb:OF 430 2 (Abd d0 d1).n (li2 (Abe d0.g d1.g)):=Qr (Abd d0 d1) λ p0 p1 s k=>by rfl
end
def Fw (n:Nat):T2:=@Nat.rec (λ Z=>T2) (λ Z Z Z Z=>false) (λ Z ih=>Abe ih P5) n
def Xv (n:Nat):PSigma λ m=>OF 430 2 m (li2 (Fw n)):=@Nat.rec (λ n=>PSigma λ m=>OF 430 2 m (li2 (Fw n))) ⟨0,A5q 430⟩ (λ n ih=>⟨_,Amb ⟨Fw n,ih.1,ih.2⟩ W7⟩) n
def Ahs (n:Nat):B1 430:=⟨Fw n,(Xv n).1,(Xv n).2⟩
section
variable (g1:T1) (d1:Cg 298) (g2:T2) (d2:B1 430)
def Yz:Bh 305 2:=Ce 2 2 ["heap","overlap","one","other"] (Ag (Vx (Lq (Cm (gN 2) (Cm (gN 3) Lp))) (Ai d1.c (kC (Aa 1) kN))) (Ag (Ay (Ad (kC (Av false 514571689263217 (Cy 520 d2.c C9) (Aa 0) (kC (Aa 2) kN)) (kC (Av false 514571689263217 (Cy 520 d2.c C9) (Aa 0) (kC (Aa 3) kN)) kN)))) At)) rfl (λ Z=>Nr λ Z Z=>rfl) (by rfl)
def Y0 (p0:PV) (p1:PV) (s:PS) (k:PV->PS->Bool):Bool:=g1 p1 s λ v1 s=>Ht v1 s λ l3=>bC false (lC false (λ x4 l5=>lC false (λ x6 l7=>lC (qM 520 (g2 p0 x4 s λ v8 s=>qM 520 (g2 p0 x6 s λ v10 s=>k (.tup [v8,v10]) s) p0 s) p0 s) F2 l7) l5) l3) (Nat.beq (len l3) 2)
theorem Ai5:OF 305 2 (Yz d1 d2).n (li2 (Y0 d1.g d2.g)):=Qr (Yz d1 d2) λ p0 p1 s k=>by rfl
end
def Gh:T2:=Y0 Xi (Fw 12)
def Ug:B1 305:=⟨Gh,_,Ai5 Aht (Ahs 12)⟩
section
variable (g1:T2) (d1:B1 444)
def L7:Bh 451 3:=Ce 3 0 ["self","a","b"] (Ag (Ay (cEq (Av false 0x328001bc000d400067 (Cy 520 d1.c C9) (Aa 0) (kC (Aa 1) kN)) (Av false 0x328001bc000d400067 (Cy 520 d1.c C9) (Aa 0) (kC (Aa 2) kN)))) At) rfl (λ Z=>bd3 λ Z Z Z=>rfl) (by rfl)
def L8 (p0:PV) (p1:PV) (p2:PV) (s:PS) (k:PV->PS->Bool):Bool:=qM 520 (g1 p0 p1 s λ v3 s=>qM 520 (g1 p0 p2 s λ v5 s=>pEq v3 v5 s λ b1 s=>k (.bool b1) s) p0 s) p0 s
theorem Xj:OF 451 3 (L7 d1).n (li3 (L8 d1.g)):=lw3 (L7 d1) λ p0 p1 p2 s k=>by rfl
end
def De:T3:=L8 Ee
def Iq:Lm 451:=⟨De,_,Xj Dj⟩
section
variable (g1:T2) (d1:B1 437)
def Re:Bh 472 1:=Ce 1 0 ["self"] (Ag (kWh (tGt (Cr (kC (Af 0x1a0000de0006a0003a8001a8000c400078 (Aa 0)) kN)) (Al 0)) (Ag (Cn (Av false 0x1d4000c400060000360001c0000e00006d (Cy 520 d1.c C9) (Aa 0) (kC (As4 (Af 0x1a0000de0006a0003a8001a8000c400078 (Aa 0)) kN) kN))) At)) At) rfl (λ Z=>Ru λ Z=>rfl) (by rfl)
end
def Gq:T1:=λ p0 s k=>(Re Ft).F [p0] s k
def Ea:Cg 472:=⟨Gq,_,U7 (Re Ft) λ p0 s k=>by rfl⟩
section
variable (g1:T2) (d1:B1 305) (g2:T1) (d2:Cg 472) (g3:T3) (d3:Lm 451)
def U0:Bh 312 2:=Ce 2 2 ["heap","overlap","one","other"] (Ag (Vx (Lq (Cm (gN 2) (Cm (gN 3) Lp))) (Ai d1.c (kC (Aa 0) (kC (Aa 1) kN)))) (Ag (Cn (Av false 0xcc0006d0003a8001d4000cc00074 (Cy 520 d2.c C9) (Aa 0) kN)) (Ag (Ay (Av false 0x330001b0000d40006d00030000198000e600062 (Cy 520 d3.c C9) (Aa 0) (kC (Aa 2) (kC (Aa 3) kN)))) At))) rfl (λ Z=>Nr λ Z Z=>rfl) (by rfl)
def U1 (p0:PV) (p1:PV) (s:PS) (k:PV->PS->Bool):Bool:=g1 p0 p1 s λ v1 s=>Ht v1 s λ l3=>bC false (lC false (λ x4 l5=>lC false (λ x6 l7=>lC (qM 520 (g2 p0 s λ v8 s=>qM 520 (g3 p0 x4 x6 s λ v10 s=>k v10 s) p0 s) p0 s) F2 l7) l5) l3) (Nat.beq (len l3) 2)
theorem Afh:OF 312 2 (U0 d1 d2 d3).n (li2 (U1 d1.g d2.g d3.g)):=Qr (U0 d1 d2 d3) λ p0 p1 s k=>by rfl
end
def Hy:T2:=U1 Gh Gq De
def Acq:B1 312:=⟨Hy,_,Afh Ug Ea Iq⟩
section
def Ro:Bh 326 1:=Ce 1 0 ["self"] (Ag (Bu 0x660003b8001c0000c600062 (Aa 0) (Cf kN)) (Ag (Bu 0x3a0001d4000e00006d (Aa 0) (Cf kN)) (Ag (Bu 0xca00066000340001cc000cc0006e (Aa 0) (Cf kN)) At))) rfl (λ Z=>Ru λ Z=>rfl) (by rfl)
end
def Aad:T1:=λ p0 s k=>Ro.F [p0] s k
def Ou:Cg 326:=⟨Aad,_,U7 Ro λ p0 s k=>by rfl⟩
section
variable (g1:T2) (d1:B1 347)
def I4:Bh 361 2:=Ce 2 0 ["self","a"] (Ag (Ay (Rt (kC (Ak (Af 0x3a0001d4000e00006d (Aa 0)) (Av false 0x328001bc000d400067 (Cy 390 d1.c C9) (Aa 0) (kC (Aa 1) kN))) kN))) At) rfl (λ Z=>Nr λ Z Z=>rfl) (by rfl)
def I5 (p0:PV) (p1:PV) (s:PS) (k:PV->PS->Bool):Bool:=Au 0x3a0001d4000e00006d (λ v4=>qM 390 (g1 p0 p1 s λ v5 s=>Ar v4 v5 s λ v3=>Ss [v3] s λ v1 s=>k v1 s) p0 s) p0 s
theorem Vu:OF 361 2 (I4 d1).n (li2 (I5 d1.g)):=Qr (I4 d1) λ p0 p1 s k=>by rfl
end
def He:T2:=I5 Eb
def Ta:B1 361:=⟨He,_,Vu Gp⟩
section
def Iz:Bh 366 1:=Ce 1 0 ["self"] (Ag (Ay (B9 (cc2 1 [0] (iK (Ah6 (kC (Cr (kC (Af 0x660003b8001c0000c600062 (Aa 0)) kN)) kN))) (gN 0) (tEq (Ak (Af 0x660003b8001c0000c600062 (Aa 1)) (Aa 0)) (Aa 0)) (Aa 0)))) At) rfl (λ Z=>Ru λ Z=>rfl) (by rfl)
end
def Hd:T1:=λ p0 s k=>Iz.F [p0] s k
def S9:Cg 366:=⟨Hd,_,U7 Iz λ p0 s k=>by rfl⟩
section
variable (g1:T1) (d1:Cg 141) (g2:T1) (d2:Cg 326)
def Xm:Bh 408 1:=Ce 1 0 ["self"] (Ag (Bu 0x360001bc000c400063 (Aa 0) (Bq 229 d1.c kN)) (Ag (Bu 0xe80006f000380001a8000de00076 (Aa 0) (Bq 390 d2.c kN)) (Ag (Bu 0x74000330001a0000ca00066 (Aa 0) (Cf kN)) (Ag (Bu 0xea00074000330001cc000e000067 (Aa 0) (Cf kN)) (Ag (Bu 0x6f0003c0001c0000de0006c (Aa 0) C7) (Ag (Bu 0x660003b8001c0000c600062 (Aa 0) C7) (Ag (Bu 0x1a0000de0006a0003a8001a8000c400078 (Aa 0) (Cf kN)) At))))))) rfl (λ Z=>Ru λ Z=>rfl) (by rfl)
end
def L1:T1:=λ p0 s k=>(Xm Ue Ou).F [p0] s k
def Aev:Cg 408:=⟨L1,_,U7 (Xm Ue Ou) λ p0 s k=>by rfl⟩
section
variable (g1:T1) (d1:Cg 148)
def Xr:Bh 415 1:=Ce 1 0 ["self"] (Ag (Ay (Av false 0x330001ec000d400074 (Cy 229 d1.c C9) (Af 0x360001bc000c400063 (Aa 0)) kN)) At) rfl (λ Z=>Ru λ Z=>rfl) (by rfl)
def Xs (p0:PV) (s:PS) (k:PV->PS->Bool):Bool:=Au 0x360001bc000c400063 (λ v3=>qM 229 (g1 v3 s λ v1 s=>k v1 s) v3 s) p0 s
theorem Ah1:OF 415 1 (Xr d1).n (li1 (Xs d1.g)):=U7 (Xr d1) λ p0 s k=>by rfl
end
def L3:T1:=Xs Uk
def Lx:Cg 415:=⟨L3,_,Ah1 Aet⟩
section
variable (g1:T4) (d1:CD4 465)
def Us:Bh 458 4:=Ce 4 0 ["self","a","b","reason"] (Ag (Ay (Av false 0x378001a8000e00006b (Cy 520 d1.c C9) (Aa 0) (kC (Aa 1) (kC (Aa 2) (kC (Aa 3) kN))))) At) rfl (λ Z=>bd4 λ Z Z Z Z=>rfl) (by rfl)
def Ut (p0:PV) (p1:PV) (p2:PV) (p3:PV) (s:PS) (k:PV->PS->Bool):Bool:=qM 520 (g1 p0 p1 p2 p3 s λ v1 s=>k v1 s) p0 s
theorem Ae7:OF 458 4 (Us d1).n (li4 (Ut d1.g)):=lw4 (Us d1) λ p0 p1 p2 p3 s k=>by rfl
end
def Qv:T4:=Ut Um
def Acl:CD4 458:=⟨Qv,_,Ae7 Lu⟩
section
variable (g1:T1) (d1:Cg 366)
def O2:Bh 486 1:=Ce 1 0 ["self"] (Ag (Ay (Av false 0x1d0000cc000740003a000188000da00064 (Cy 390 d1.c C9) (Af 0xe80006f000380001a8000de00076 (Aa 0)) kN)) At) rfl (λ Z=>Ru λ Z=>rfl) (by rfl)
def O3 (p0:PV) (s:PS) (k:PV->PS->Bool):Bool:=Au 0xe80006f000380001a8000de00076 (λ v3=>qM 390 (g1 v3 s λ v1 s=>k v1 s) v3 s) p0 s
theorem Aaf:OF 486 1 (O2 d1).n (li1 (O3 d1.g)):=U7 (O2 d1) λ p0 s k=>by rfl
end
def Xd:T1:=O3 Hd
def Ls:Cg 486:=⟨Xd,_,Aaf S9⟩
section
variable (g1:T2) (d1:B1 361)
def O5:Bh 493 2:=Ce 2 0 ["self","c"] (Ag (Ay (Av false 0x1d0000e600066000318001b8000cc0006e (Cy 390 d1.c C9) (Af 0xe80006f000380001a8000de00076 (Aa 0)) (kC (Aa 1) kN))) At) rfl (λ Z=>Nr λ Z Z=>rfl) (by rfl)
def O6 (p0:PV) (p1:PV) (s:PS) (k:PV->PS->Bool):Bool:=Au 0xe80006f000380001a8000de00076 (λ v3=>qM 390 (g1 v3 p1 s λ v1 s=>k v1 s) v3 s) p0 s
theorem Aag:OF 493 2 (O5 d1).n (li2 (O6 d1.g)):=Qr (O5 d1) λ p0 p1 s k=>by rfl
end
def Xe:T2:=O6 He
def Lv:B1 493:=⟨Xe,_,Aag Ta⟩
section
variable (g1:T2) (d1:B1 493) (g2:T2) (d2:B1 420)
def L9:Bh 498 2:=Ce 2 0 ["self","c"] (Ag (Ay (Si (B9 (Wp 1 [0] (iK (Av false 0x1d0000e600066000318001b8000cc0006e (Cy 520 d1.c C9) (Aa 0) (kC (Aa 1) kN))) (gN 0) (Av false 0x33000194000e00006f (Cy 520 d2.c C9) (Aa 1) (kC (Aa 0) kN)))))) At) rfl (λ Z=>Nr λ Z Z=>rfl) (by rfl)
end
def Ir:T2:=λ p0 p1 s k=>(L9 Lv Gf).F [p0,p1] s k
def Vn:B1 498:=⟨Ir,_,Qr (L9 Lv Gf) λ p0 p1 s k=>by rfl⟩
section
def Rs:Bh 538 2:=Ce 2 0 ["self","heap"] (Ag (Bu 0x38800188000cc00069 (Aa 0) (Aa 1)) At) rfl (λ Z=>Nr λ Z Z=>rfl) (by rfl)
end
def Aae:T2:=λ p0 p1 s k=>Rs.F [p0,p1] s k
def Ov:B1 538:=⟨Aae,_,Qr Rs λ p0 p1 s k=>by rfl⟩
section
variable (g0:T4) (d0:CD4 543) (g1:T1) (d1:Cg 98) (g2:T2) (d2:B1 498)
def B7 (κ:KA) (F:PV->It->KA) (it:It) (acc:List PV) (b:Nat) (s:PS):Bool:=G7 it s (κ acc b s) λ x it=>@Nat.rec (λ Z=>Bool) false (λ b Z=>F x it (x::acc) b s) b
def Ex (κ:KA) (n:Nat):It->KA:=@Nat.rec (λ Z=>It->KA) (λ Z Z Z Z=>false) (λ Z ih=>B7 κ λ Z=>ih) n
def C4 (KK:Ax->KA) (n:Nat) (it:It) (o0:OP) (o1:OP):KA:=λ acc b s=>Bl (gN 1).f (Be (Aa 1).f) n it [o0,o1,some p2,some p3,some p4] acc b s KK
theorem N2 (KK:Ax->KA) (κ:KA) (H:∀ (o0:OP) (o1:OP),KK [o0,o1,some p2,some p3,some p4]=κ) (n:Nat):∀ (it:It) (o0:OP) (o1:OP),C4 p2 p3 p4 KK n it o0 o1=Ex κ n it:=by
 induction n with
 | zero=>exact λ it o0 o1=>by rfl
 | succ n ih=>exact λ it o0 o1=>Eq.trans (b:=B7 (KK [o0,o1,some p2,some p3,some p4]) (λ t1 it=>C4 p2 p3 p4 KK n it o0 (some t1)) it) (by rfl) ((congrArg (λ x=>B7 x _ it) (H o0 o1)).trans (congrArg (λ F=>B7 κ F it) (funext λ t1=>funext λ it=>ih it o0 (some t1))))
def C6 (κ:KA) (F:PV->It->It->KA) (it:It) (acc:List PV) (b:Nat) (s:PS):Bool:=G7 it s (κ acc b s) λ x it=>qM 558 (g0 p4 x p2 p3 s λ v3 s=>Bn v3 s λ t1 s=>F x it t1 acc b s) p4 s
def C5 (κ:KA) (n:Nat):It->KA:=@Nat.rec (λ Z=>It->KA) (λ Z Z Z Z=>false) (λ Z ih=>C6 p2 p3 p4 g0 κ λ p0 it=>Ex (ih it) 200) n
def N3 (κ:KA) (n:Nat) (it:It) (o0:OP) (o1:OP):KA:=λ acc b s=>Bl (gN 0).f (Tk 200 (iK (Av false 0x32800198000ca0006f000330001d4000f200066 (Cy 558 d0.c C9) (Aa 4) (kC (Aa 0) (kC (Aa 2) (kC (Aa 3) kN))))).f (gN 1).f (Be (Aa 1).f)) n it [o0,o1,some p2,some p3,some p4] acc b s λ Z=>κ
theorem N1 (κ:KA) (n:Nat):∀ (it:It) (o0:OP) (o1:OP),N3 p2 p3 p4 d0 κ n it o0 o1=C5 p2 p3 p4 d0.g κ n it:=by
 induction n with
 | zero=>exact λ it o0 o1=>by rfl
 | succ n ih=>exact λ it o0 o1=>Eq.trans (b:=C6 p2 p3 p4 d0.g κ (λ t0 it it2=>C4 p2 p3 p4 (λ ρ acc b s=>Bl (gN 0).f (Tk 200 (iK (Av false 0x32800198000ca0006f000330001d4000f200066 (Cy 558 d0.c C9) (Aa 4) (kC (Aa 0) (kC (Aa 2) (kC (Aa 3) kN))))).f (gN 1).f (Be (Aa 1).f)) n it ρ acc b s λ Z=>κ) 200 it2 (some t0) o1) it) (by rfl) (congrArg (λ F=>C6 p2 p3 p4 d0.g κ F it) (funext λ t0=>funext λ it=>funext λ it2=>N2 p2 p3 p4 (λ ρ acc b s=>Bl (gN 0).f (Tk 200 (iK (Av false 0x32800198000ca0006f000330001d4000f200066 (Cy 558 d0.c C9) (Aa 4) (kC (Aa 0) (kC (Aa 2) (kC (Aa 3) kN))))).f (gN 1).f (Be (Aa 1).f)) n it ρ acc b s λ Z=>κ) (C5 p2 p3 p4 d0.g κ n it) (λ o0 o1=>ih it o0 o1) 200 it2 (some t0) o1))
def Ew (K:It->PS->Bool):Bool:=Bn p8 s λ t5 s=>K t5 s
def Ev:Bool:=Ew p8 s λ it t=>C5 p9 p10 p0 g0 (λ acc Z t=>k (.lst (rv acc)) t) 200 it [] Bv t
def Qc:CS:=wkS (Ml 8 (cc3 2 [9,10,0] (iK (Aa 8)) (gN 0) (iK (Av false 0x32800198000ca0006f000330001d4000f200066 (Cy 558 d0.c C9) (Aa 4) (kC (Aa 0) (kC (Aa 2) (kC (Aa 3) kN))))) (gN 1) (Aa 1))) (λ ρ s kl kr=>Ase ρ λ o0 o1 o2 o3 o4 o5 o6 o7 o8 o9 o10 r=>oC (λ p0=>oC (λ p8=>oC (λ p9=>oC (λ p10=>Ev p0 p8 p9 p10 s (λ x t=>kl (some p0::o1::o2::o3::o4::o5::o6::o7::some x::some p9::some p10::r) t) d0.g) o10) o9) o8) o0) λ ρ s kl kr=>λ e=>Au9 e λ o0 o1 o2 o3 o4 o5 o6 o7 o8 o9 o10 r e=>cO e λ p0 e=>cO e λ p8 e=>cO e λ p9 e=>cO e λ p10 e=>No (λ (F:It->KA)=>Ew p8 s λ it t=>F it [] Bv t) (by rfl) (funext λ it=>N1 p9 p10 p0 d0 (λ acc Z t=>(λ x t=>kl (some p0::o1::o2::o3::o4::o5::o6::o7::some x::some p9::some p10::r) t) (PV.lst (rv acc)) t) 200 it none none) e
def E2 (kn:Fh) (F:It->Fh) (it:It) (p8:PV) (o9:OP) (o10:OP) (s:PS):Bool:=G7 it s (kn p8 o9 o10 s) λ x it=>Ht x s λ l14=>bC false (lC false (λ x15 l16=>lC false (λ x17 l18=>lC (Ev p0 p8 x15 x17 s (λ x19 s=>F it x19 (some x15) (some x17) s) g0) F2 l18) l16) l14) (Nat.beq (len l14) 2)
def E1 (kn:Fh) (n:Nat):It->Fh:=@Nat.rec (λ Z=>It->Fh) (λ Z Z Z Z Z=>false) (λ Z=>E2 p0 g0 kn) n
def E0 (K:It->PS->Bool):Bool:=Ll p7 (.int 1) λ v23=>Ll p3 (.int 1) λ v24=>Ams (lV [v23,v24]) [] s λ t21 s=>K t21 s
def Ey:Np:=Ag (Qc d0) At
def Ez (kn:Fh):Bool:=E0 p3 p7 s λ it t=>E1 p0 g0 kn 200 it p8 o9 o10 t
def N5 (n:Nat):It->Fh:=λ it p8 o9 o10 s=>Ej (Lq (Cm (gN 9) (Cm (gN 10) Lp))).f (Ey d0).f n it (some p0::o1::o2::o3::o4::o5::o6::o7::some p8::o9::o10::r) s kl kr
theorem N4 (n:Nat):N5 p0 o1 o2 o3 o4 o5 o6 o7 kr r kl d0 n=E1 p0 d0.g (λ p8 o9 o10 s=>kl (some p0::o1::o2::o3::o4::o5::o6::o7::some p8::o9::o10::r) s) n:=Mj (E2 p0 d0.g (λ p8 o9 o10 s=>kl (some p0::o1::o2::o3::o4::o5::o6::o7::some p8::o9::o10::r) s)) (by rfl) (λ n=>by rfl) (λ n=>rfl) n
def Qd:CS:=wkS (Gx (iZi (kC (Dn (Aa 7) (Al 1)) (kC (Dn (Aa 3) (Al 1)) kN))) (Lq (Cm (gN 9) (Cm (gN 10) Lp))) (Ey d0)) (λ ρ s kl kr=>Ase ρ λ o0 o1 o2 o3 o4 o5 o6 o7 o8 o9 o10 r=>oC (λ p0=>oC (λ p3=>oC (λ p7=>oC (λ p8=>Ez p0 p3 p7 p8 o9 o10 s d0.g (λ x8 x9 x10 t=>kl (some p0::o1::o2::some p3::o4::o5::o6::some p7::some x8::x9::x10::r) t)) o8) o7) o3) o0) λ ρ s kl kr=>λ e=>Au9 e λ o0 o1 o2 o3 o4 o5 o6 o7 o8 o9 o10 r e=>cO e λ p0 e=>cO e λ p3 e=>cO e λ p7 e=>cO e λ p8 e=>No (λ (F:It->Fh)=>E0 p3 p7 s λ it t=>F it p8 o9 o10 t) (by rfl) (N4 p0 o1 o2 (some p3) o4 o5 o6 (some p7) kr r kl d0 200) e
def Ln (F:It->Rf) (g0:T4) (it:It) (o10:OP) (o8:OP) (o9:OP) (p0:PV) (p1:PV) (p3:PV) (p6:PV) (s:PS) (x:PV):Bool:=Hs [x] s λ v55 s=>Hs [p3] s λ v57 s=>pEq v55 v57 s λ b53 s=>bC (F it (some x) o8 o9 o10 s) (Am (.list [p1]) s λ i59 s=>Ez p0 p3 x (.obj i59) o9 o10 s g0 (λ x61 x62 x63 s=>kL p6 s (Gm [p6,x61] s λ v65 s=>F it (some x) (some x61) x62 x63 s))) b53
def E7 (kn:Rf) (F:It->Rf) (it:It) (o7:OP) (o8:OP) (o9:OP) (o10:OP) (s:PS):Bool:=G7 it s (kn o7 o8 o9 o10 s) λ x it=>(λ (j48:PS->Bool)=>Ar x (.int 0) s λ v52=>pEq v52 p4 s λ b50 s=>bC (j48 s) (Ln F g0 it o10 o8 o9 p0 p1 p3 p6 s x) b50) (λ s=>F it (some x) o8 o9 o10 s)
def E6 (kn:Rf) (n:Nat):It->Rf:=@Nat.rec (λ Z=>It->Rf) (λ Z Z Z Z Z Z=>false) (λ Z=>E7 p0 p1 p3 p4 p6 g0 kn) n
def E5 (K:It->PS->Bool):Bool:=Au 0x38800188000cc00069 (λ v71=>qM 520 (g2 v71 p2 s λ v69 s=>Bn v69 s λ t67 s=>K t67 s) v71 s) p0 s
def E3:Np:=Ag (Bz (M2 (tEq (Ak (Aa 7) (Al 0)) (Aa 4)) (tEq (Cr (kC (Aa 7) kN)) (Cr (kC (Aa 3) kN)))) (Ag (Br 8 (Cf (kC (Aa 1) kN))) (Ag (Qd d0) (Ag (Cn (Sn (Aa 6) (kC (Aa 8) kN))) At))) At) At
def E4 (kn:Rf):Bool:=E5 p0 p2 s g2 λ it t=>E6 p0 p1 p3 p4 p6 g0 kn 200 it o7 o8 o9 o10 t
def N7 (n:Nat):It->Rf:=λ it o7 o8 o9 o10 s=>Ej (gN 7).f (E3 d0).f n it (some p0::some p1::o2::some p3::some p4::o5::some p6::o7::o8::o9::o10::r) s kl kr
theorem N6 (n:Nat):N7 p0 p1 p3 p4 p6 o2 o5 kr r kl d0 n=E6 p0 p1 p3 p4 p6 d0.g (λ o7 o8 o9 o10 s=>kl (some p0::some p1::o2::some p3::some p4::o5::some p6::o7::o8::o9::o10::r) s) n:=Mj (E7 p0 p1 p3 p4 p6 d0.g (λ o7 o8 o9 o10 s=>kl (some p0::some p1::o2::some p3::some p4::o5::some p6::o7::o8::o9::o10::r) s)) (by rfl) (λ n=>by rfl) (λ n=>rfl) n
def Qe:CS:=wkS (Gx (iK (Av false 0x338001c0000c00007400033000194000e00006f (Cy 520 d2.c C9) (Af 0x38800188000cc00069 (Aa 0)) (kC (Aa 2) kN))) (gN 7) (E3 d0)) (λ ρ s kl kr=>Ase ρ λ o0 o1 o2 o3 o4 o5 o6 o7 o8 o9 o10 r=>oC (λ p0=>oC (λ p1=>oC (λ p2=>oC (λ p3=>oC (λ p4=>oC (λ p6=>E4 p0 p1 p2 p3 p4 p6 o7 o8 o9 o10 s d0.g d2.g (λ x7 x8 x9 x10 t=>kl (some p0::some p1::some p2::some p3::some p4::o5::some p6::x7::x8::x9::x10::r) t)) o6) o4) o3) o2) o1) o0) λ ρ s kl kr=>λ e=>Au9 e λ o0 o1 o2 o3 o4 o5 o6 o7 o8 o9 o10 r e=>cO e λ p0 e=>cO e λ p1 e=>cO e λ p2 e=>cO e λ p3 e=>cO e λ p4 e=>cO e λ p6 e=>No (λ (F:It->Rf)=>E5 p0 p2 s d2.g λ it t=>F it o7 o8 o9 o10 t) (by rfl) (N6 p0 p1 p3 p4 p6 (some p2) o5 kr r kl d0 200) e
def Hj:Bh 543 4:=Ce 4 7 ["self","table","c","pattern","op","late","found","node","tables","kid","part"] (Ag (Br 4 (Ak (Aa 3) (Al 0))) (Ag (Bz (V4 (Ai d1.c (kC (Aa 3) kN))) (Ag (Br 5 (Abh (kC (Aa 1) kN))) (Ag (Fe (Aa 5) (Aa 4) (Aa 2)) (Ag (Ay (kIf (tEq (Vz (Aa 1) (kC (Aa 4) (kC (Aa 2) kN))) (Aa 2)) (Fk (kC (Aa 5) kN)) (Fk kN))) At))) At) (Ag (Br 6 (Cf kN)) (Ag (Qe d0 d2) (Ag (Ay (Aa 6)) At))))) rfl (λ Z=>bd4 λ Z Z Z Z=>rfl) (by rfl)
def Qb (k:PV->PS->Bool) (p1:PV) (p2:PV) (s:PS) (v72:PV):Bool:=Ab6 [p1] s λ v84 s=>Od v84 v72 p2 s λ s=>(λ (j87:PV->PS->Bool)=>kD p1 s (Ap5 [p1,v72,p2] s λ v92 s=>pEq v92 p2 s λ b90 s=>bC (j87 (.lst []) s) (j87 (.lst [v84]) s) b90)) (λ v88 s=>k v88 s)
def Hk (p0:PV) (p1:PV) (p2:PV) (p3:PV) (s:PS) (k:PV->PS->Bool):Bool:=Ar p3 (.int 0) s λ v72=>g1 p3 s λ v75 s=>Nm (λ b73=>bC (Am (.list []) s λ i77 s=>E4 p0 p1 p2 p3 v72 (.obj i77) none none none none s g0 g2 (λ x79 x80 x81 x82 s=>k (.obj i77) s)) (Qb k p1 p2 s v72) b73) v75
theorem Tg:OF 543 4 (Hj d0 d1 d2).n (li4 (Hk d0.g d1.g d2.g)):=lw4 (Hj d0 d1 d2) λ p0 p1 p2 p3 s k=>by rfl
end
def B4 (n:Nat):T4:=@Nat.rec (λ Z=>T4) (λ Z Z Z Z Z Z=>false) (λ Z ih=>Hk ih Ec Ir) n
def Gi (n:Nat):PSigma λ m=>OF 543 4 m (li4 (B4 n)):=@Nat.rec (λ n=>PSigma λ m=>OF 543 4 m (li4 (B4 n))) ⟨0,A2b 543⟩ (λ n ih=>⟨_,Tg ⟨B4 n,ih.1,ih.2⟩ Az Vn⟩) n
def Qt (n:Nat):CD4 543:=⟨B4 n,(Gi n).1,(Gi n).2⟩
section
variable (g1:T4) (d1:CD4 543) (g2:T2) (d2:B1 444)
def Fc (kn:Ko) (F:It->Ko) (it:It) (o4:OP) (s:PS):Bool:=G7 it s (kn o4 s) λ x it=>Adi (eC x) [] s λ v9 s=>Il [v9] s λ v7 s=>Od p3 v7 (.bool true) s λ s=>F it (some x) s
def Fb (kn:Ko) (n:Nat):It->Ko:=@Nat.rec (λ Z=>It->Ko) (λ Z Z Z=>false) (λ Z=>Fc p3 kn) n
def Fa (K:It->PS->Bool):Bool:=qM 558 (Am (.dict [] true) s λ i15 s=>Au 0x38800188000cc00069 (λ v19=>qM 520 (g2 v19 p1 s λ v17 s=>g1 p0 (.obj i15) v17 p2 s λ v13 s=>Bn v13 s λ t11 s=>K t11 s) v19 s) p0 s) p0 s
def E8:Np:=Ag (Fe (Aa 3) (Em (kC (A5c (Aa 4)) kN)) (Dm true)) At
def E9 (kn:Ko):Bool:=Fa p0 p1 p2 s g1 g2 λ it t=>Fb p3 kn 200 it o4 t
def N9 (n:Nat):It->Ko:=λ it o4 s=>Ej (gN 4).f E8.f n it (o0::o1::o2::some p3::o4::r) s kl kr
theorem N8 (n:Nat):N9 p3 o0 o1 o2 kr r kl n=Fb p3 (λ o4 s=>kl (o0::o1::o2::some p3::o4::r) s) n:=Mj (Fc p3 (λ o4 s=>kl (o0::o1::o2::some p3::o4::r) s)) (by rfl) (λ n=>by rfl) (λ n=>rfl) n
def Qf:CS:=wkS (Gx (iK (Av false 0x32800198000ca0006f000330001d4000f200066 (Cy 558 d1.c C9) (Aa 0) (kC C7 (kC (Av false 0x328001bc000d400067 (Cy 520 d2.c C9) (Af 0x38800188000cc00069 (Aa 0)) (kC (Aa 1) kN)) (kC (Aa 2) kN))))) (gN 4) E8) (λ ρ s kl kr=>ex5 ρ λ o0 o1 o2 o3 o4 r=>oC (λ p0=>oC (λ p1=>oC (λ p2=>oC (λ p3=>E9 p0 p1 p2 p3 o4 s d1.g d2.g (λ x4 t=>kl (some p0::some p1::some p2::some p3::x4::r) t)) o3) o2) o1) o0) λ ρ s kl kr=>λ e=>xc5 e λ o0 o1 o2 o3 o4 r e=>cO e λ p0 e=>cO e λ p1 e=>cO e λ p2 e=>cO e λ p3 e=>No (λ (F:It->Ko)=>Fa p0 p1 p2 s d1.g d2.g λ it t=>F it o4 t) (by rfl) (N8 p3 (some p0) (some p1) (some p2) kr r kl 200) e
def Hl:Bh 550 3:=Ce 3 2 ["self","c","pattern","substs","table"] (Ag (Br 3 C7) (Ag (Qf d1 d2) (Ag (Ay (Rt (kC (Aa 3) kN))) At))) rfl (λ Z=>bd3 λ Z Z Z=>rfl) (by rfl)
def Hm (p0:PV) (p1:PV) (p2:PV) (s:PS) (k:PV->PS->Bool):Bool:=Am (.dict [] true) s λ i20 s=>E9 p0 p1 p2 (.obj i20) none s g1 g2 (λ x22 s=>Ss [(.obj i20)] s λ v24 s=>k v24 s)
theorem Th:OF 550 3 (Hl d1 d2).n (li3 (Hm d1.g d2.g)):=lw3 (Hl d1 d2) λ p0 p1 p2 s k=>by rfl
end
def Qy:T3:=Hm (B4 12) Ee
def Gg:Lm 550:=⟨Qy,_,Th (Qt 12) Dj⟩
section
variable (g1:T1) (d1:Cg 486) (g2:T3) (d2:Lm 550)
def Ph:Bh 555 2:=Ce 2 0 ["self","pattern"] (Ag (Ay (B9 (cc3 2 [1,0] (iK (Av false 0x1d0000cc000740003a000188000da00064 (Cy 520 d1.c C9) (Af 0x38800188000cc00069 (Aa 0)) kN)) (gN 0) (iK (Av false 0x378001a8000c000065000378001d8000e000067 (Cy 558 d2.c C9) (Aa 3) (kC (Aa 0) (kC (Aa 2) kN)))) (gN 1) (Ad (kC (Aa 0) (kC (Aa 1) kN)))))) At) rfl (λ Z=>Nr λ Z Z=>rfl) (by rfl)
end
def Xg:T2:=λ p0 p1 s k=>(Ph Ls Gg).F [p0,p1] s k
def Lz:B1 555:=⟨Xg,_,Qr (Ph Ls Gg) λ p0 p1 s k=>by rfl⟩
section
variable (g1:T1) (d1:Cg 98) (g2:T1) (d2:Cg 103)
def Xy:Bh 575 5:=Ce 5 6 ["self","name","left","right","needs","known","asked","kind","one","other","lost"] (Ag (Bz (V4 (Ai d1.c (kC (Aa 2) kN))) (Ag Ig At) At) (Ag (Br 5 (Ai d2.c (kC (Aa 2) kN))) (Ag (Br 6 (Cj (Fk (kC (Ad (kC (Ac 0x66000360001a8000da00062) (kC (Aa 3) (kC (Aa 3) kN)))) kN)) (Aoa (kC (Aa 4) kN)))) (Ag (Gx (iK (Aa 6)) (Lq (Cm (gN 7) (Cm (gN 8) (Cm (gN 9) Lp)))) (Ag (Bz (Anp (Aa 7) (Ad (kC (Ac 0x66000360001a8000da00062) (kC (Ac 0xcc0006c000350001b4000de00076) kN)))) (Ag Ig At) At) (Ag (Ml 10 (cc2 1 [5] (iK (Cj (Ai d2.c (kC (Aa 8) kN)) (Ai d2.c (kC (Aa 9) kN)))) (gN 0) (Anp (Aa 0) (Aa 1)) (Aa 0))) (Ag (Bz (tNe (Aa 10) (Fk kN)) (Ag Ig At) At) At)))) (Ag (Bu 0x330001b8000c40006f (Aa 0) (Aa 1)) (Ag (Bu 0x3a80019c000cc0006d (Aa 0) (Aa 2)) (Ag (Bu 0x75000348001a0000d400073 (Aa 0) (Aa 3)) (Ag (Bu 0x7400032800198000cc0006f (Aa 0) (Em (kC (Aa 4) kN))) At)))))))) rfl (λ Z=>bd5 λ Z Z Z Z Z=>rfl) (by rfl)
end
def Ae2:T5:=λ p0 p1 p2 p3 p4 s k=>(Xy Az Bp).F [p0,p1,p2,p3,p4] s k
def Bk:CD5 575:=⟨Ae2,_,lw5 (Xy Az Bp) λ p0 p1 p2 p3 p4 s k=>by rfl⟩
section
def Rj:Bh 603 2:=Ce 2 0 ["self","heap"] (Ag (Bu 0x38800188000cc00069 (Aa 0) (Aa 1)) At) rfl (λ Z=>Nr λ Z Z=>rfl) (by rfl)
end
def Aac:T2:=λ p0 p1 s k=>Rj.F [p0,p1] s k
def Ot:B1 603:=⟨Aac,_,Qr Rj λ p0 p1 s k=>by rfl⟩
section
variable (g0:T3) (d0:Lm 608) (g1:T1) (d1:Cg 98) (g2:T3) (d2:Lm 425)
def Fx (κ:KA) (F:PV->It->KA) (it:It) (acc:List PV) (b:Nat) (s:PS):Bool:=G7 it s (κ acc b s) λ x it=>qM 623 (g0 p2 x p1 s λ v1 s=>@Nat.rec (λ Z=>Bool) false (λ b Z=>F x it (v1::acc) b s) b) p2 s
def Me (κ:KA) (n:Nat):It->KA:=@Nat.rec (λ Z=>It->KA) (λ Z Z Z Z=>false) (λ Z ih=>Fx p1 p2 g0 κ λ Z=>ih) n
def Mc (κ:KA) (n:Nat) (it:It) (o0:OP):KA:=λ acc b s=>Bl (gN 0).f (Be (Av false 514571689263217 (Cy 623 d0.c C9) (Aa 2) (kC (Aa 0) (kC (Aa 1) kN))).f) n it [o0,some p1,some p2] acc b s λ Z=>κ
theorem Xw (κ:KA) (n:Nat):∀ (it:It) (o0:OP),Mc p1 p2 d0 κ n it o0=Me p1 p2 d0.g κ n it:=by
 induction n with
 | zero=>exact λ it o0=>by rfl
 | succ n ih=>exact λ it o0=>Eq.trans (b:=Fx p1 p2 d0.g κ (λ t0 it=>Mc p1 p2 d0 κ n it (some t0)) it) (by rfl) (congrArg (λ F=>Fx p1 p2 d0.g κ F it) (funext λ t0=>funext λ it=>ih it (some t0)))
def Md (K:It->PS->Bool):Bool:=Ll p1 (.int 1) λ v5=>Bn v5 s λ t3 s=>K t3 s
def Mb:Bool:=Md p1 s λ it t=>Me p2 p0 g0 (λ acc Z t=>k (.lst (rv acc)) t) 200 it [] Bv t
def Aaj:CE:=wkE (B9 (Wp 1 [2,0] (iK (Dn (Aa 1) (Al 1))) (gN 0) (Av false 514571689263217 (Cy 623 d0.c C9) (Aa 2) (kC (Aa 0) (kC (Aa 1) kN))))) (λ ρ s k=>ex3 ρ λ o0 o1 o2 r=>oC (λ p0=>oC (λ p1=>oC (λ p2=>Mb p0 p1 p2 s k d0.g) o2) o1) o0) λ ρ s k=>λ e=>xc3 e λ o0 o1 o2 r e=>cO e λ p0 e=>cO e λ p1 e=>cO e λ p2 e=>No (λ (F:It->KA)=>Md p1 s λ it t=>F it [] Bv t) (by rfl) (funext λ it=>Xw p2 p0 d0 (λ acc Z t=>k (.lst (rv acc)) t) 200 it none) e
def Uv:Bh 608 3:=Ce 3 0 ["self","pattern","table"] (Ag (Bz (V4 (Ai d1.c (kC (Aa 1) kN))) (Ag (Ay (Ak (Aa 2) (Ak (Aa 1) (Al 0)))) At) At) (Ag (Ay (Av false 444202909433954 (Cy 520 d2.c C9) (Af 0x38800188000cc00069 (Aa 0)) (kC (Ak (Aa 1) (Al 0)) (kC (Aaj d0) kN)))) At)) rfl (λ Z=>bd3 λ Z Z Z=>rfl) (by rfl)
def Aai (g0:T3) (g2:T3) (k:PV->PS->Bool) (p0:PV) (p1:PV) (p2:PV) (s:PS):Bool:=Au 0x38800188000cc00069 (λ v12=>qM 520 (Ar p1 (.int 0) s λ v13=>Mb p0 p1 p2 s (λ v14 s=>g2 v12 v13 v14 s λ v10 s=>k v10 s) g0) v12 s) p0 s
def Uw (p0:PV) (p1:PV) (p2:PV) (s:PS) (k:PV->PS->Bool):Bool:=g1 p1 s λ v8 s=>Nm (λ b6=>bC (Aai g0 g2 k p0 p1 p2 s) (Ar p1 (.int 0) s λ v17=>Ar p2 v17 s λ v16=>k v16 s) b6) v8
theorem Afa:OF 608 3 (Uv d0 d1 d2).n (li3 (Uw d0.g d1.g d2.g)):=lw3 (Uv d0 d1 d2) λ p0 p1 p2 s k=>by rfl
end
def Dq (n:Nat):T3:=@Nat.rec (λ Z=>T3) (λ Z Z Z Z Z=>false) (λ Z ih=>Uw ih Ec P5) n
def Rh (n:Nat):PSigma λ m=>OF 608 3 m (li3 (Dq n)):=@Nat.rec (λ n=>PSigma λ m=>OF 608 3 m (li3 (Dq n))) ⟨0,A2a 608⟩ (λ n ih=>⟨_,Afa ⟨Dq n,ih.1,ih.2⟩ Az W7⟩) n
def Acm (n:Nat):Lm 608:=⟨Dq n,(Rh n).1,(Rh n).2⟩
section
variable (g1:T2) (d1:B1 538) (g2:T2) (d2:B1 603)
def Rk:Bh 639 4:=Ce 4 1 ["self","heap","rules","options","names"] (Ag (Bz (Anp (Vz (Aa 3) (kC (Ac 0x7300033000194000e600070) (kC (Ac 0x39800198000d200075000330001a0000e000075) kN))) (Bb [0x39800198000d200075000330001a0000e000075,0x74000378001cc000ec00075,0x740003a8001d0000cc00073])) (Ag Ig At) At) (Ag (Ml 4 (Wp 1 [] (iK (Aa 2)) (gN 0) (Af 0x330001b8000c40006f (Aa 0)))) (Ag (Bz (tLt (Asx (Aa 4)) (Cr (kC (Aa 4) kN))) (Ag Ig At) At) (Ag (Bu 0x38800188000cc00069 (Aa 0) (Aa 1)) (Ag (Bu 0x74000330001b4000ec00073 (Aa 0) (Aoa (kC (Aa 2) kN))) (Ag (Bu 0x1d0000de00070000350001d4000e200070 (Aa 0) (Aa 3)) (Ag (Bu 0xe600066000360001b4000c400078 (Aa 0) (Bq 558 d1.c (kC (Aa 1) kN))) (Ag (Bu 0xe60006600032000188000da00071 (Aa 0) (Bq 623 d2.c (kC (Aa 1) kN))) (Ag (Bu 0x1e8000e6000700003a8001d0000d400069 (Aa 0) (Cf kN)) (Ag (Bu 0xe800065000378001d8000e000073 (Aa 0) (Al 0)) (Ag (Bu 0x740003a8001d0000cc00073 (Aa 0) (Av6 (kC (Al 0) kN) (Cr (kC (Af 0x74000330001b4000ec00073 (Aa 0)) kN)))) (Ag (Bu 0x74000330001b0000c400078 (Aa 0) (Av6 (kC (Al 0) kN) (Cr (kC (Af 0x74000330001b4000ec00073 (Aa 0)) kN)))) At)))))))))))) rfl (λ Z=>bd4 λ Z Z Z Z=>rfl) (by rfl)
end
def Gr:T4:=λ p0 p1 p2 p3 s k=>(Rk Ov Ot).F [p0,p1,p2,p3] s k
def Z7:CD4 639:=⟨Gr,_,lw4 (Rk Ov Ot) λ p0 p1 p2 p3 s k=>by rfl⟩
section
variable (g1:T1) (d1:Cg 415)
def Iw:Bh 646 1:=Ce 1 0 ["self"] (Ag (Ay (cGt (Av false 0x330001ec000d400074 (Cy 520 d1.c C9) (Af 0x38800188000cc00069 (Aa 0)) kN) (Vz (Af 0x1d0000de00070000350001d4000e200070 (Aa 0)) (kC (Ac 0x7400033000194000e00006f) (kC (Al 10000) kN))))) At) rfl (λ Z=>Ru λ Z=>rfl) (by rfl)
end
def Tb:T1:=λ p0 s k=>(Iw Lx).F [p0] s k
def Cz:Cg 646:=⟨Tb,_,U7 (Iw Lx) λ p0 s k=>by rfl⟩
section
variable (g1:T2) (d1:B1 555)
def Ix:Bh 653 2:=Ce 2 1 ["self","k","found"] (Ag (Bz (tGt (Ak (Af 0x74000330001b0000c400078 (Aa 0)) (Aa 1)) (Af 0xe800065000378001d8000e000073 (Aa 0))) (Ag (Ay Pj) At) At) (Ag (Br 2 (Av false 0x65000378001d8000e000067 (Cy 558 d1.c C9) (Af 0xe600066000360001b4000c400078 (Aa 0)) (kC (Af 0x3a80019c000cc0006d (Ak (Af 0x74000330001b4000ec00073 (Aa 0)) (Aa 1))) kN))) (Ag (Bz (M2 (tEq (Vz (Af 0x1d0000de00070000350001d4000e200070 (Aa 0)) (kC (Ac 0x7300033000194000e600070) (kC (Ac 0x39800198000d200075000330001a0000e000075) kN))) (Ac 0x740003a8001d0000cc00073)) (tGt (Cr (kC (Aa 2) kN)) (Vz (Af 0x1d0000de00070000350001d4000e200070 (Aa 0)) (kC (Ac 0x3a8001d0000e00006e) (kC (Al 100) kN))))) Av4 At) (Ag (Ay (Aa 2)) At)))) rfl (λ Z=>Nr λ Z Z=>rfl) (by rfl)
end
def Tc:T2:=λ p0 p1 s k=>(Ix Lz).F [p0,p1] s k
def G9:B1 653:=⟨Tc,_,Qr (Ix Lz) λ p0 p1 s k=>by rfl⟩
section
variable (g1:T1) (d1:Cg 472) (g2:T3) (d2:Lm 608) (g3:T4) (d3:CD4 458)
def D5 (κ:KA) (F:PV->It->KA) (it:It) (acc:List PV) (b:Nat) (s:PS):Bool:=G7 it s (κ acc b s) λ x it=>false
def Hi (κ:KA) (n:Nat):It->KA:=@Nat.rec (λ Z=>It->KA) (λ Z Z Z Z=>false) (λ Z ih=>D5 κ λ Z=>ih) n
def Hg (κ:KA) (n:Nat) (it:It) (o0:OP):KA:=λ acc b s=>Bl (gN 0).f (cIf (Y8 (V4 Av5)).f (Be (Aa 0).f)) n it [o0,some p1,some p2] acc b s λ Z=>κ
theorem Tf (κ:KA) (n:Nat):∀ (it:It) (o0:OP),Hg p1 p2 κ n it o0=Hi κ n it:=by
 induction n with
 | zero=>exact λ it o0=>by rfl
 | succ n ih=>exact λ it o0=>Eq.trans (b:=D5 κ (λ t0 it=>Hg p1 p2 κ n it (some t0)) it) (by rfl) (congrArg (λ F=>D5 κ F it) (funext λ t0=>funext λ it=>ih it (some t0)))
def Hh (K:It->PS->Bool):Bool:=Au 0x7400032800198000cc0006f (λ v7=>Bn v7 s λ t5 s=>K t5 s) p1 s
def Hf:Bool:=Hh p1 s λ it t=>Hi (λ acc Z t=>k (.lst (rv acc)) t) 200 it [] Bv t
def Vr:CE:=wkE (B9 (cc2 1 [3,0] (iK (Af 0x7400032800198000cc0006f (Aa 1))) (gN 0) (Y8 (V4 Av5)) (Aa 0))) (λ ρ s k=>ex4 ρ λ o0 o1 o2 o3 r=>oC (λ p0=>oC (λ p1=>oC (λ p3=>Hf p1 s k) o3) o1) o0) λ ρ s k=>λ e=>xc4 e λ o0 o1 o2 o3 r e=>cO e λ p0 e=>cO e λ p1 e=>cO e λ p3 e=>No (λ (F:It->KA)=>Hh p1 s λ it t=>F it [] Bv t) (by rfl) (funext λ it=>Tf p3 p0 (λ acc Z t=>k (.lst (rv acc)) t) 200 it none) e
def D4:Bool:=Hf p1 s (λ v28 s=>pNe v28 (.lst []) s λ b26 s=>bC (Au 0xe60006600032000188000da00071 (λ v32=>qM 623 (Au 0x3a80019c000cc0006d (λ v33=>g2 v32 v33 p3 s λ v30 s=>Au 0xe60006600032000188000da00071 (λ v36=>qM 623 (Au 0x75000348001a0000d400073 (λ v37=>g2 v36 v37 p3 s λ v34 s=>Au 0x38800188000cc00069 (λ v40=>qM 520 (Au 0x330001b8000c40006f (λ v41=>Il [p2] s λ v42 s=>g3 v40 v30 v34 (.tup [(.str 0x330001b4000ec00073),v41,v42]) s λ v38 s=>kr v38 s) p1 s) v40 s) p0 s) p1 s) v36 s) p0 s) p1 s) v32 s) p0 s) (kr (.bool false) s) b26)
def Te:Np:=Ag (Bz (tNe Vr (Fk kN)) (Ag (Ay (Dm false)) At) At) (Ag (Ka 4 5 (Ad (kC (Av false 514571689263217 (Cy 623 d2.c C9) (Af 0xe60006600032000188000da00071 (Aa 0)) (kC (Af 0x3a80019c000cc0006d (Aa 1)) (kC (Aa 3) kN))) (kC (Av false 514571689263217 (Cy 623 d2.c C9) (Af 0xe60006600032000188000da00071 (Aa 0)) (kC (Af 0x75000348001a0000d400073 (Aa 1)) (kC (Aa 3) kN))) kN)))) (Ag (Ay (Av false 0x66000340001cc000cc0006e (Cy 520 d3.c C9) (Af 0x38800188000cc00069 (Aa 0)) (kC (Aa 4) (kC (Aa 5) (kC (Ad (kC (Ac 0x330001b4000ec00073) (kC (Af 0x330001b8000c40006f (Aa 1)) (kC (Em (kC (Aa 2) kN)) kN)))) kN))))) At))
def Vq:Np:=wkB (Te d2 d3) (λ ρ s kl kr=>ex6 ρ λ o0 o1 o2 o3 o4 o5 r=>oC (λ p0=>oC (λ p1=>oC (λ p2=>oC (λ p3=>D4 p0 p1 p2 p3 s kr d2.g d3.g) o3) o2) o1) o0) λ ρ s kl kr=>λ e=>xc6 e λ o0 o1 o2 o3 o4 o5 r e=>cO e λ p0 e=>cO e λ p1 e=>cO e λ p2 e=>cO e λ p3 e=>Eq.trans (by rfl) e
def Pb:Bh 658 3:=Ce 3 3 ["self","rule","subst","table","left","right"] (Ag (Br 3 (Abh (kC (Aa 2) kN))) (Ag (Bz (tNe (Af 0x7400032800198000cc0006f (Aa 1)) (Ad kN)) (Ag (Cn (Av false 0xcc0006d0003a8001d4000cc00074 (Cy 520 d1.c C9) (Af 0x38800188000cc00069 (Aa 0)) kN)) At) At) (Vq d2 d3))) rfl (λ Z=>bd3 λ Z Z Z=>rfl) (by rfl)
def Vp (g1:T1) (g2:T3) (g3:T4) (k:PV->PS->Bool) (p0:PV) (p1:PV) (p2:PV) (s:PS) (v44:PV):Bool:=Au 0x38800188000cc00069 (λ v51=>qM 520 (g1 v51 s λ v49 s=>D4 p0 p1 p2 v44 s k g2 g3) v51 s) p0 s
def Pc (p0:PV) (p1:PV) (p2:PV) (s:PS) (k:PV->PS->Bool):Bool:=Ab6 [p2] s λ v44 s=>Au 0x7400032800198000cc0006f (λ v48=>pNe v48 (.tup []) s λ b46 s=>bC (D4 p0 p1 p2 v44 s k g2 g3) (Vp g1 g2 g3 k p0 p1 p2 s v44) b46) p1 s
theorem Aak:OF 658 3 (Pb d1 d2 d3).n (li3 (Pc d1.g d2.g d3.g)):=lw3 (Pb d1 d2 d3) λ p0 p1 p2 s k=>by rfl
end
def Xf:T3:=Pc Gq (Dq 12) Qv
def Ly:Lm 658:=⟨Xf,_,Aak Ea (Acm 12) Acl⟩
section
variable (g1:T1) (d1:Cg 646) (g2:T3) (d2:Lm 658)
def Gj:Bh 665 3:=Ce 3 3 ["self","k","found","joined","c","subst"] (Ag (Br 3 (Al 0)) (Ag (Gx (iK (Aa 2)) (Lq (Cm (gN 4) (Cm (gN 5) Lp))) (Ag (Bz (M2 (Y8 (V4 (Av false 0x1b4000da0007600033800180000e80006a (Cy 678 d1.c C9) (Aa 0) kN))) (V4 (Av false 0x7a000368001c4000e200062 (Cy 678 d2.c C9) (Aa 0) (kC (Ak (Af 0x74000330001b4000ec00073 (Aa 0)) (Aa 1)) (kC (Aa 5) kN))))) (Ag (Br 3 (Cj (Aa 3) (Al 1))) At) At) At)) (Ag (Cn (B8 (Af 0x1e8000e6000700003a8001d0000d400069 (Aa 0)) (kC (Ad (kC (Af 0xe800065000378001d8000e000073 (Aa 0)) (kC (Af 0x330001b8000c40006f (Ak (Af 0x74000330001b4000ec00073 (Aa 0)) (Aa 1))) (kC (Cr (kC (Aa 2) kN)) (kC (Aa 3) kN))))) kN))) (Ag (Ay (Aa 3)) At)))) rfl (λ Z=>bd3 λ Z Z Z=>rfl) (by rfl)
end
def P6:T3:=λ p0 p1 p2 s k=>(Gj Cz Ly).F [p0,p1,p2] s k
def Fu:Lm 665:=⟨P6,_,lw3 (Gj Cz Ly) λ p0 p1 p2 s k=>by rfl⟩
section
variable (g1:T1) (d1:Cg 472) (g2:T2) (d2:B1 653) (g3:T3) (d3:Lm 665)
def Gk:Bh 670 1:=Ce 1 4 ["self","joined","some","k","lists"] (Ag (Ka 1 2 (Ad (kC (Al 0) (kC (Ah6 (kC (Cr (kC (Af 0x74000330001b4000ec00073 (Aa 0)) kN)) kN)) kN)))) (Ag (Cn (Av false 0xcc0006d0003a8001d4000cc00074 (Cy 520 d1.c C9) (Af 0x38800188000cc00069 (Aa 0)) kN)) (Ag (Bz (tEq (Vz (Af 0x1d0000de00070000350001d4000e200070 (Aa 0)) (kC (Ac 0x7300033000194000e600070) (kC (Ac 0x39800198000d200075000330001a0000e000075) kN))) (Ac 0x74000378001cc000ec00075)) Av4 (Ag (Br 4 (B9 (Wp 1 [0] (iK (Aa 2)) (gN 0) (Av false 0x1d0000cc00069000320001d4000c40006e (Cy 678 d2.c C9) (Aa 1) (kC (Aa 0) kN))))) (Ag (Br 1 (Axp (kC (B9 (cc2 1 [0,4] (iK (Aa 2)) (gN 0) (Arc (Ak (Aa 2) (Aa 0)) Pj) (Av false 0x6d00036800188000c00007a000368001c4000e200062 (Cy 678 d3.c C9) (Aa 1) (kC (Aa 0) (kC (Ak (Aa 2) (Aa 0)) kN))))) kN))) (Ag (Cn (Av false 0xcc0006d0003a8001d4000cc00074 (Cy 520 d1.c C9) (Af 0x38800188000cc00069 (Aa 0)) kN)) At)))) (Ag (Bu 0xe800065000378001d8000e000073 (Aa 0) (Cj (Af 0xe800065000378001d8000e000073 (Aa 0)) (Al 1))) (Ag (Ay (Aa 1)) At))))) rfl (λ Z=>Ru λ Z=>rfl) (by rfl)
end
def P7:T1:=λ p0 s k=>(Gk Ea G9 Fu).F [p0] s k
def Fv:Cg 670:=⟨P7,_,U7 (Gk Ea G9 Fu) λ p0 s k=>by rfl⟩
section
variable (g1:T1) (d1:Cg 670) (g2:T1) (d2:Cg 646)
def Uy:Bh 675 1:=Ce 1 1 ["self","joined"] (Ag (kWh (tLt (Af 0xe800065000378001d8000e000073 (Aa 0)) (Vz (Af 0x1d0000de00070000350001d4000e200070 (Aa 0)) (kC (Ac 0xe800065000378001d8000e000073) (kC (Al 30) kN)))) (Ag (Br 1 (Av false 0x65000378001d8000e00007300030000198000de00070 (Cy 678 d1.c C9) (Aa 0) kN)) (Ag (Bz (V4 (Av false 0x1b4000da0007600033800180000e80006a (Cy 678 d2.c C9) (Aa 0) kN)) (Ag (Ay (Ac 0x7400033000194000e00006f)) At) At) (Ag (Bz (M2 (tEq (Aa 1) (Al 0)) (tEq (B9 (cc2 1 [0] (iK (Af 0x74000330001b0000c400078 (Aa 0))) (gN 0) (tGe (Aa 0) (Af 0xe800065000378001d8000e000073 (Aa 1))) (Aa 0))) (Fk kN))) (Ag (Ay (Ac 0x194000cc0006d0003a8001d4000cc00074)) At) At) At)))) (Ag (Ay (Ac 0xe800065000378001d8000e000073)) At)) rfl (λ Z=>Ru λ Z=>rfl) (by rfl)
end
def Hx:T1:=λ p0 s k=>(Uy Fv Cz).F [p0] s k
def Aco:Cg 675:=⟨Hx,_,U7 (Uy Fv Cz) λ p0 s k=>by rfl⟩
section
variable (g1:T5) (d1:CD5 575)
def Aga:Bh 696 2:=Ce 2 0 ["op","unit"] (Ag (Ay (Fk (kC (Bq 585 d1.c (kC (Abx (Amu (Aa 0)) (Ac 0x6f000398001d8000ea0002e)) (kC (Ad (kC (Aa 0) (kC (Bb [205520960]) (kC (Bb [207618112]) kN)))) (kC (Ad (kC (Aa 0) (kC (Bb [207618112]) (kC (Bb [205520960]) kN)))) (kC (Ad kN) kN))))) (kC (Bq 585 d1.c (kC (Abx (Amu (Aa 0)) (Ac 0x3a8001d8000e20002e)) (kC (Ad (kC (Aa 0) (kC (Ad (kC (Aa 0) (kC (Bb [205520960]) (kC (Bb [207618112]) kN)))) (kC (Bb [209715264]) kN)))) (kC (Ad (kC (Aa 0) (kC (Bb [205520960]) (kC (Ad (kC (Aa 0) (kC (Bb [207618112]) (kC (Bb [209715264]) kN)))) kN)))) (kC (Ad kN) kN))))) (kC (Bq 585 d1.c (kC (Abx (Amu (Aa 0)) (Ac 0x75000350001bc000ec0002e)) (kC (Ad (kC (Aa 0) (kC (Bb [205520960]) (kC (Ad (kC (Aa 1) kN)) kN)))) (kC (Bb [205520960]) (kC (Ad kN) kN))))) kN))))) At) rfl (λ Z=>Nr λ Z Z=>rfl) (by rfl)
end
def Al6:T2:=λ p0 p1 s k=>(Aga Bk).F [p0,p1] s k
def Dk:B1 696:=⟨Al6,_,Qr (Aga Bk) λ p0 p1 s k=>by rfl⟩
section
def Xx:Bh 710 2:=Ce 2 0 ["self","n"] (Ag (Bu 111 (Aa 0) (Aa 1)) At) rfl (λ Z=>Nr λ Z Z=>rfl) (by rfl)
end
def Un:T2:=λ p0 p1 s k=>Xx.F [p0,p1] s k
def Aew:B1 710:=⟨Un,_,Qr Xx λ p0 p1 s k=>by rfl⟩
section
variable (g1:T2) (d1:B1 696) (g2:T5) (d2:CD5 575)
def Ux:Bh 717 1:=Ce 1 1 ["self","zero"] (Ag (Br 1 (Ad (kC (Ac 49) kN))) (Ag (Ay (Cj (Cj (Ai d1.c (kC (Ac 444202909433954) (kC (Ac 49) kN))) (Ai d1.c (kC (Ac 479387317174382) (kC (Ac 50) kN)))) (Fk (kC (Bq 585 d2.c (kC (Ac 0x194000ca00062000170001a0000cc0006f) (kC (Ad (kC (Ac 444202909433954) (kC (Bb [205520960]) (kC (Ad (kC (Ac 457397051064431) (kC (Bb [205520960]) kN))) kN)))) (kC (Aa 1) (kC (Ad kN) kN))))) (kC (Bq 585 d2.c (kC (Ac 0x1a0000cc0006f000170001a0000cc0006f) (kC (Ad (kC (Ac 457397051064431) (kC (Ad (kC (Ac 457397051064431) (kC (Bb [205520960]) kN))) kN))) (kC (Bb [205520960]) (kC (Ad kN) kN))))) (kC (Bq 585 d2.c (kC (Ac 0x1b4000ec0006e000170001a0000cc0006f) (kC (Ad (kC (Ac 479387317174382) (kC (Ad (kC (Ac 457397051064431) (kC (Bb [205520960]) kN))) (kC (Bb [207618112]) kN)))) (kC (Ad (kC (Ac 457397051064431) (kC (Ad (kC (Ac 479387317174382) (kC (Bb [205520960]) (kC (Bb [207618112]) kN)))) kN))) (kC (Ad kN) kN))))) (kC (Bq 585 d2.c (kC (Ac 0x380001cc000cc0007b000170001b4000ec0006e) (kC (Ad (kC (Ac 479387317174382) (kC (Bb [205520960]) (kC (Aa 1) kN)))) (kC (Aa 1) (kC (Ad kN) kN))))) (kC (Bq 585 d2.c (kC (Ac 0xca00062000330001cc000e200074) (kC (Ad (kC (Ac 479387317174382) (kC (Bb [205520960]) (kC (Ad (kC (Ac 444202909433954) (kC (Bb [207618112]) (kC (Bb [209715264]) kN)))) kN)))) (kC (Ad (kC (Ac 444202909433954) (kC (Ad (kC (Ac 479387317174382) (kC (Bb [205520960]) (kC (Bb [207618112]) kN)))) (kC (Ad (kC (Ac 479387317174382) (kC (Bb [205520960]) (kC (Bb [209715264]) kN)))) kN)))) (kC (Ad kN) kN))))) (kC (Bq 585 d2.c (kC (Ac 0xe600066000348001d4000c400068) (kC (Ad (kC (Ac 444202909433954) (kC (Ad (kC (Ac 479387317174382) (kC (Bb [205520960]) (kC (Bb [207618112]) kN)))) (kC (Ad (kC (Ac 479387317174382) (kC (Bb [205520960]) (kC (Bb [209715264]) kN)))) kN)))) (kC (Ad (kC (Ac 479387317174382) (kC (Bb [205520960]) (kC (Ad (kC (Ac 444202909433954) (kC (Bb [207618112]) (kC (Bb [209715264]) kN)))) kN)))) (kC (Ad kN) kN))))) (kC (Bq 585 d2.c (kC (Ac 0x65000378001d8000e000073) (kC (Ad (kC (A4x (kC (Af 111 (Aa 0)) kN)) kN)) (kC (Aa 1) (kC (Ad kN) kN))))) kN)))))))))) At)) rfl (λ Z=>Ru λ Z=>rfl) (by rfl)
end
def Qw:T1:=λ p0 s k=>(Ux Dk Bk).F [p0] s k
def Acn:Cg 717:=⟨Qw,_,U7 (Ux Dk Bk) λ p0 s k=>by rfl⟩
section
variable (g1:T2) (d1:B1 696) (g2:T5) (d2:CD5 575)
def Pe:Bh 745 1:=Ce 1 2 ["self","true","false"] (Ag (Vx (Lq (Cm (gN 1) (Cm (gN 2) Lp))) (Ad (kC (Ad (kC (Ac 0x330001d8000e600075) kN)) (kC (Ad (kC (Ac 0x660003a0001b4000c400067) kN)) kN)))) (Ag (Ay (Cj (Cj (Ai d1.c (kC (Ac 444202930405474) (kC (Ac 0x330001d8000e600075) kN))) (Ai d1.c (kC (Ac 241172592) (kC (Ac 0x660003a0001b4000c400067) kN)))) (Fk (kC (Bq 585 d2.c (kC (Ac 0x66000320001a8000f00007500017000194000de00062) (kC (Ad (kC (Ac 444202930405474) (kC (Bb [205520960]) (kC (Bb [205520960]) kN)))) (kC (Bb [205520960]) (kC (Ad kN) kN))))) (kC (Bq 585 d2.c (kC (Ac 0x33000190000d4000780003a8000b8000e600070) (kC (Ad (kC (Ac 241172592) (kC (Bb [205520960]) (kC (Bb [205520960]) kN)))) (kC (Bb [205520960]) (kC (Ad kN) kN))))) (kC (Bq 585 d2.c (kC (Ac 0x660003a0001b4000c40006700017000194000de00062) (kC (Ad (kC (Ac 444202930405474) (kC (Bb [205520960]) (kC (Aa 2) kN)))) (kC (Aa 2) (kC (Ad kN) kN))))) (kC (Bq 585 d2.c (kC (Ac 0x198000ec000730003a8000b8000e600070) (kC (Ad (kC (Ac 241172592) (kC (Bb [205520960]) (kC (Aa 1) kN)))) (kC (Aa 1) (kC (Ad kN) kN))))) (kC (Bq 585 d2.c (kC (Ac 0x1d4000e00006f00017000194000de00062) (kC (Ad (kC (Ac 444202930405474) (kC (Bb [205520960]) (kC (Ad (kC (Ac 514571676680303) (kC (Bb [205520960]) kN))) kN)))) (kC (Aa 2) (kC (Ad kN) kN))))) (kC (Bq 585 d2.c (kC (Ac 0xea00070000378000b8000e600070) (kC (Ad (kC (Ac 241172592) (kC (Bb [205520960]) (kC (Ad (kC (Ac 514571676680303) (kC (Bb [205520960]) kN))) kN)))) (kC (Aa 1) (kC (Ad kN) kN))))) (kC (Bq 585 d2.c (kC (Ac 0x1d4000e00006f000170001d4000e00006f) (kC (Ad (kC (Ac 514571676680303) (kC (Ad (kC (Ac 514571676680303) (kC (Bb [205520960]) kN))) kN))) (kC (Bb [205520960]) (kC (Ad kN) kN))))) (kC (Bq 585 d2.c (kC (Ac 0x194000de00062000170001d4000e00006f) (kC (Ad (kC (Ac 514571676680303) (kC (Ad (kC (Ac 444202930405474) (kC (Bb [205520960]) (kC (Bb [207618112]) kN)))) kN))) (kC (Ad (kC (Ac 241172592) (kC (Ad (kC (Ac 514571676680303) (kC (Bb [205520960]) kN))) (kC (Ad (kC (Ac 514571676680303) (kC (Bb [207618112]) kN))) kN)))) (kC (Ad kN) kN))))) (kC (Bq 585 d2.c (kC (Ac 0xe600070000170001d4000e00006f) (kC (Ad (kC (Ac 514571676680303) (kC (Ad (kC (Ac 241172592) (kC (Bb [205520960]) (kC (Bb [207618112]) kN)))) kN))) (kC (Ad (kC (Ac 444202930405474) (kC (Ad (kC (Ac 514571676680303) (kC (Bb [205520960]) kN))) (kC (Ad (kC (Ac 514571676680303) (kC (Bb [207618112]) kN))) kN)))) (kC (Ad kN) kN))))) (kC (Bq 585 d2.c (kC (Ac 0xca00062000330001cc000e200074) (kC (Ad (kC (Ac 444202930405474) (kC (Bb [205520960]) (kC (Ad (kC (Ac 241172592) (kC (Bb [207618112]) (kC (Bb [209715264]) kN)))) kN)))) (kC (Ad (kC (Ac 241172592) (kC (Ad (kC (Ac 444202930405474) (kC (Bb [205520960]) (kC (Bb [207618112]) kN)))) (kC (Ad (kC (Ac 444202930405474) (kC (Bb [205520960]) (kC (Bb [209715264]) kN)))) kN)))) (kC (Ad kN) kN))))) (kC (Bq 585 d2.c (kC (Ac 496979486441578) (kC (Ad (kC (Ac 496979486441578) (kC (Bb [205520960]) (kC (Bb [207618112]) kN)))) (kC (Ad (kC (Ac 241172592) (kC (Ad (kC (Ac 514571676680303) (kC (Bb [205520960]) kN))) (kC (Bb [207618112]) kN)))) (kC (Ad kN) kN))))) kN)))))))))))))) At)) rfl (λ Z=>Ru λ Z=>rfl) (by rfl)
end
def L4:T1:=λ p0 s k=>(Pe Dk Bk).F [p0] s k
def W8:Cg 745:=⟨L4,_,U7 (Pe Dk Bk) λ p0 s k=>by rfl⟩
section
variable (g1:T5) (d1:CD5 575)
def Rg:Bh 773 1:=Ce 1 1 ["self","nil"] (Ag (Br 1 (Ad (kC (Ac 479387292008559) kN))) (Ag (Ay (Fk (kC (Bq 585 d1.c (kC (Ac 0x1b4000d40006f000170001c4000e200062) (kC (Ad (kC (Ac 496979492733026) (kC (Aa 1) (kC (Bb [205520960]) kN)))) (kC (Bb [205520960]) (kC (Ad kN) kN))))) (kC (Bq 585 d1.c (kC (Ac 0x3a0001bc000e000064000170001c4000e200062) (kC (Ad (kC (Ac 496979492733026) (kC (Ad (kC (Ac 0x3a0001bc000e000064) (kC (Bb [205520960]) (kC (Bb [207618112]) kN)))) (kC (Bb [209715264]) kN)))) (kC (Ad (kC (Ac 0x3a0001bc000e000064) (kC (Bb [205520960]) (kC (Ad (kC (Ac 496979492733026) (kC (Bb [207618112]) (kC (Bb [209715264]) kN)))) kN)))) (kC (Ad kN) kN))))) (kC (Bq 585 d1.c (kC (Ac 0x194000de00066000170001c4000e200062) (kC (Ad (kC (Ac 496979492733026) (kC (Bb [205520960]) (kC (Aa 1) kN)))) (kC (Bb [205520960]) (kC (Ad kN) kN))))) (kC (Bq 585 d1.c (kC (Ac 0x1d4000ec00071000170001c4000e200062) (kC (Ad (kC (Ac 496979492733026) (kC (Ad (kC (Ac 496979492733026) (kC (Bb [205520960]) (kC (Bb [207618112]) kN)))) (kC (Bb [209715264]) kN)))) (kC (Ad (kC (Ac 496979492733026) (kC (Bb [205520960]) (kC (Ad (kC (Ac 496979492733026) (kC (Bb [207618112]) (kC (Bb [209715264]) kN)))) kN)))) (kC (Ad kN) kN))))) (kC (Bq 585 d1.c (kC (Ac 0x1b4000d40006f000170001dc000cc00073) (kC (Ad (kC (Ac 523367748730995) (kC (Aa 1) kN))) (kC (Aa 1) (kC (Ad kN) kN))))) (kC (Bq 585 d1.c (kC (Ac 0x3a0001bc000e000064000170001dc000cc00073) (kC (Ad (kC (Ac 523367748730995) (kC (Ad (kC (Ac 0x3a0001bc000e000064) (kC (Bb [205520960]) (kC (Bb [207618112]) kN)))) kN))) (kC (Ad (kC (Ac 496979492733026) (kC (Ad (kC (Ac 523367748730995) (kC (Bb [207618112]) kN))) (kC (Ad (kC (Ac 0x3a0001bc000e000064) (kC (Bb [205520960]) (kC (Aa 1) kN)))) kN)))) (kC (Ad kN) kN))))) (kC (Bq 585 d1.c (kC (Ac 0x1c4000e200062000170001dc000cc00073) (kC (Ad (kC (Ac 523367748730995) (kC (Ad (kC (Ac 496979492733026) (kC (Bb [205520960]) (kC (Bb [207618112]) kN)))) kN))) (kC (Ad (kC (Ac 496979492733026) (kC (Ad (kC (Ac 523367748730995) (kC (Bb [207618112]) kN))) (kC (Ad (kC (Ac 523367748730995) (kC (Bb [205520960]) kN))) kN)))) (kC (Ad kN) kN))))) (kC (Bq 585 d1.c (kC (Ac 0x1dc000cc00073000170001dc000cc00073) (kC (Ad (kC (Ac 523367748730995) (kC (Ad (kC (Ac 523367748730995) (kC (Bb [205520960]) kN))) kN))) (kC (Bb [205520960]) (kC (Ad kN) kN))))) kN)))))))))) At)) rfl (λ Z=>Ru λ Z=>rfl) (by rfl)
end
def Oy:T1:=λ p0 s k=>(Rg Bk).F [p0] s k
def Z6:Cg 773:=⟨Oy,_,U7 (Rg Bk) λ p0 s k=>by rfl⟩
section
def Xz:Bh 801 2:=Ce 2 0 ["self","n"] (Ag (Bu 0x66000368001c0000d200078 (Aa 0) (Am6 (A5p (Al 2) (Aa 1)) (Al 1))) At) rfl (λ Z=>Nr λ Z Z=>rfl) (by rfl)
end
def Uo:T2:=λ p0 p1 s k=>Xz.F [p0,p1] s k
def Aex:B1 801:=⟨Uo,_,Qr Xz λ p0 p1 s k=>by rfl⟩
section
variable (g1:T2) (d1:B1 696) (g2:T5) (d2:CD5 575)
def Uz:Bh 808 1:=Ce 1 2 ["self","none","whole"] (Ag (Vx (Lq (Cm (gN 1) (Cm (gN 2) Lp))) (Ad (kC (Ad (kC (Ac 0x330001bc000e00006f) kN)) (kC (Ad (kC (Ac 479387298300002) kN)) kN)))) (Ag (Ay (Cj (Cj (Ai d1.c (kC (Ac 0x6f000380001a8000de00076) (kC (Ac 0x330001bc000e00006f) kN))) (Ai d1.c (kC (Ac 0x3a800198000cc0006e) (kC (Ac 479387298300002) kN)))) (Fk (kC (Bq 585 d2.c (kC (Ac 0x198000c80006a0003c0001d40005c0006f000380001a8000de00076) (kC (Ad (kC (Ac 0x6f000380001a8000de00076) (kC (Bb [205520960]) (kC (Bb [205520960]) kN)))) (kC (Bb [205520960]) (kC (Ad kN) kN))))) (kC (Bq 585 d2.c (kC (Ac 0xcc00064000350001e0000ea0002e0003a800198000cc0006e) (kC (Ad (kC (Ac 0x3a800198000cc0006e) (kC (Bb [205520960]) (kC (Bb [205520960]) kN)))) (kC (Bb [205520960]) (kC (Ad kN) kN))))) (kC (Bq 585 d2.c (kC (Ac 0xea00066000330001b80005c0006f000380001a8000de00076) (kC (Ad (kC (Ac 0x6f000380001a8000de00076) (kC (Bb [205520960]) (kC (Ad (kC (Ac 0x3a800198000cc0006e) (kC (Bb [205520960]) (kC (Bb [207618112]) kN)))) kN)))) (kC (Bb [205520960]) (kC (Ad kN) kN))))) (kC (Bq 585 d2.c (kC (Ac 0xde00070000350001bc000ec0002e0003a800198000cc0006e) (kC (Ad (kC (Ac 0x3a800198000cc0006e) (kC (Bb [205520960]) (kC (Ad (kC (Ac 0x6f000380001a8000de00076) (kC (Bb [205520960]) (kC (Bb [207618112]) kN)))) kN)))) (kC (Bb [205520960]) (kC (Ad kN) kN))))) (kC (Bq 585 d2.c (kC (Ac 0x75000380001bc0005c0006f000380001a8000de00076) (kC (Ad (kC (Ac 0x6f000380001a8000de00076) (kC (Bb [205520960]) (kC (Ad (kC (Ac 514571676680303) (kC (Bb [205520960]) kN))) kN)))) (kC (Aa 2) (kC (Ad kN) kN))))) (kC (Bq 585 d2.c (kC (Ac 0x3a8001c0000de0002e0003a800198000cc0006e) (kC (Ad (kC (Ac 0x3a800198000cc0006e) (kC (Bb [205520960]) (kC (Ad (kC (Ac 514571676680303) (kC (Bb [205520960]) kN))) kN)))) (kC (Aa 1) (kC (Ad kN) kN))))) (kC (Bq 585 d2.c (kC (Ac 0xca00062000330001cc000e200074) (kC (Ad (kC (Ac 0x3a800198000cc0006e) (kC (Bb [205520960]) (kC (Ad (kC (Ac 0x6f000380001a8000de00076) (kC (Bb [207618112]) (kC (Bb [209715264]) kN)))) kN)))) (kC (Ad (kC (Ac 0x6f000380001a8000de00076) (kC (Ad (kC (Ac 0x3a800198000cc0006e) (kC (Bb [205520960]) (kC (Bb [207618112]) kN)))) (kC (Ad (kC (Ac 0x3a800198000cc0006e) (kC (Bb [205520960]) (kC (Bb [209715264]) kN)))) kN)))) (kC (Ad kN) kN))))) (kC (Bq 585 d2.c (kC (Ac 0x3a0001d0000cc0006d) (kC (Ad (kC (Ac 0x3a0001d0000cc0006d) (kC (Bb [205520960]) (kC (Bb [207618112]) kN)))) (kC (Ad (kC (Ac 0x3a800198000cc0006e) (kC (Bb [205520960]) (kC (Ad (kC (Ac 514571676680303) (kC (Bb [207618112]) kN))) kN)))) (kC (Ad kN) kN))))) (kC (Bq 585 d2.c (kC (Ac 0x3a0001d0000cc0006d000170001d4000e00006f) (kC (Ad (kC (Ac 514571676680303) (kC (Ad (kC (Ac 0x3a0001d0000cc0006d) (kC (Bb [205520960]) (kC (Bb [207618112]) kN)))) kN))) (kC (Ad (kC (Ac 0x6f000380001a8000de00076) (kC (Ad (kC (Ac 514571676680303) (kC (Bb [205520960]) kN))) (kC (Bb [207618112]) kN)))) (kC (Ad kN) kN))))) kN)))))))))))) At)) rfl (λ Z=>Ru λ Z=>rfl) (by rfl)
end
def Qx:T1:=λ p0 s k=>(Uz Dk Bk).F [p0] s k
def Acp:Cg 808:=⟨Qx,_,U7 (Uz Dk Bk) λ p0 s k=>by rfl⟩
section
def Ma:Bh 836 2:=Ce 2 0 ["self","most"] (Ag (Bu 0x3a8001d0000e00006e (Aa 0) (Aa 1)) At) rfl (λ Z=>Nr λ Z Z=>rfl) (by rfl)
end
def Iu:T2:=λ p0 p1 s k=>Ma.F [p0,p1] s k
def Vo:B1 836:=⟨Iu,_,Qr Ma λ p0 p1 s k=>by rfl⟩
section
variable (g1:T2) (d1:B1 696) (g2:T5) (d2:CD5 575)
def Iv:Bh 843 1:=Ce 1 1 ["self","zero"] (Ag (Br 1 (Ad (kC (Ac 0x380001cc000cc0007b) kN))) (Ag (Ay (Cj (Cj (Ai d1.c (kC (Ac 0x3a0001d8000da00071) (kC (Ac 0x380001cc000cc0007b) kN))) (Af5 (Ai d1.c (kC (Ac 0x74000330001b8000d400075) (kC (Ac 0x380001cc000cc0007b) kN))) (Al 2))) (Fk (kC (Bq 585 d2.c (kC (Ac 0x64000320001d8000e80002e0003a0001d8000da00071) (kC (Ad (kC (Ac 0x3a0001d8000da00071) (kC (Bb [205520960]) (kC (Ad (kC (Ac 0x32000190000ec00074) (kC (Bb [207618112]) kN))) kN)))) (kC (Ad (kC (Ac 0x32000190000ec00074) (kC (Ad (kC (Ac 0x3a0001d8000da00071) (kC (Bb [205520960]) (kC (Bb [207618112]) kN)))) kN))) (kC (Ad kN) kN))))) (kC (Bq 585 d2.c (kC (Ac 0xe000073000330001ec0005c00074000330001b8000d400075) (kC (Ad (kC (Ac 0x74000330001b8000d400075) (kC (Bb [205520960]) (kC (Aa 1) kN)))) (kC (Aa 1) (kC (Ad kN) kN))))) (kC (Bq 585 d2.c (kC (Ac 0x66000378001c00005c00074000330001b8000d400075) (kC (Ad (kC (Ac 0x74000330001b8000d400075) (kC (Bb [205520960]) (kC (Ad (kC (Ac 0x32000190000ec00074) (kC (Aa 1) kN))) kN)))) (kC (Bb [205520960]) (kC (Ad kN) kN))))) (kC (Bq 585 d2.c (kC (Ac 0xc8000640003b0001d00005c00074000330001b8000d400075) (kC (Ad (kC (Ac 0x74000330001b8000d400075) (kC (Bb [205520960]) (kC (Ad (kC (Ac 0x32000190000ec00074) (kC (Bb [207618112]) kN))) kN)))) (kC (Ad (kC (Ac 0x3a0001d8000da00071) (kC (Ad (kC (Ac 0x74000330001b8000d400075) (kC (Bb [205520960]) (kC (Bb [207618112]) kN)))) (kC (Bb [205520960]) kN)))) (kC (Ad kN) kN))))) (kC (Bq 585 d2.c (kC (Ac 0xca00062000330001cc000e200074) (kC (Ad (kC (Ac 0x74000330001b8000d400075) (kC (Bb [205520960]) (kC (Ad (kC (Ac 0x3a0001d8000da00071) (kC (Bb [207618112]) (kC (Bb [209715264]) kN)))) kN)))) (kC (Ad (kC (Ac 0x3a0001d8000da00071) (kC (Ad (kC (Ac 0x74000330001b8000d400075) (kC (Bb [205520960]) (kC (Bb [207618112]) kN)))) (kC (Ad (kC (Ac 0x74000330001b8000d400075) (kC (Bb [205520960]) (kC (Bb [209715264]) kN)))) kN)))) (kC (Ad kN) kN))))) kN)))))))) At)) rfl (λ Z=>Ru λ Z=>rfl) (by rfl)
end
def Hc:T1:=λ p0 s k=>(Iv Dk Bk).F [p0] s k
def S8:Cg 843:=⟨Hc,_,U7 (Iv Dk Bk) λ p0 s k=>by rfl⟩
section
def G1:Bool:=Ar p0 (.str 0x6f0003c0001c0000de0006c) s λ v4=>Ar v4 p3 s λ v3=>kr v3 s
def Aat:Np:=Ag (Ay (Ak (Ak (Aa 0) (Ac 0x6f0003c0001c0000de0006c)) (Aa 3))) At
def Ad9:Np:=wkB Aat (λ ρ s kl kr=>ex4 ρ λ o0 o1 o2 o3 r=>oC (λ p0=>oC (λ p3=>G1 p0 p3 s kr) o3) o0) λ ρ s kl kr=>λ e=>xc4 e λ o0 o1 o2 o3 r e=>cO e λ p0 e=>cO e λ p3 e=>Eq.trans (by rfl) e
def G2 (κ:KA) (F:PV->It->KA) (it:It) (acc:List PV) (b:Nat) (s:PS):Bool:=G7 it s (κ acc b s) λ x it=>Ar p1 (.str 0x74000330001b8000e000069) s λ v6=>Ar v6 x s λ v5=>@Nat.rec (λ Z=>Bool) false (λ b Z=>F x it (v5::acc) b s) b
def Pq (κ:KA) (n:Nat):It->KA:=@Nat.rec (λ Z=>It->KA) (λ Z Z Z Z=>false) (λ Z ih=>G2 p1 κ λ Z=>ih) n
def Po (κ:KA) (n:Nat) (it:It) (o0:OP):KA:=λ acc b s=>Bl (gN 0).f (Be (Ak (Ak (Aa 1) (Ac 0x74000330001b8000e000069)) (Aa 0)).f) n it [o0,some p1] acc b s λ Z=>κ
theorem Aau (κ:KA) (n:Nat):∀ (it:It) (o0:OP),Po p1 κ n it o0=Pq p1 κ n it:=by
 induction n with
 | zero=>exact λ it o0=>by rfl
 | succ n ih=>exact λ it o0=>Eq.trans (b:=G2 p1 κ (λ t0 it=>Po p1 κ n it (some t0)) it) (by rfl) (congrArg (λ F=>G2 p1 κ F it) (funext λ t0=>funext λ it=>ih it (some t0)))
def Pp (K:It->PS->Bool):Bool:=Bn p2 s λ t7 s=>K t7 s
def Pn:Bool:=Pp p2 s λ it t=>Pq p0 (λ acc Z t=>k (.lst (rv acc)) t) 200 it [] Bv t
def Aea:CE:=wkE (B9 (Wp 1 [0] (iK (Aa 2)) (gN 0) (Ak (Ak (Aa 1) (Ac 0x74000330001b8000e000069)) (Aa 0)))) (λ ρ s k=>ex3 ρ λ o0 o1 o2 r=>oC (λ p0=>oC (λ p2=>Pn p0 p2 s k) o2) o0) λ ρ s k=>λ e=>xc3 e λ o0 o1 o2 r e=>cO e λ p0 e=>cO e λ p2 e=>No (λ (F:It->KA)=>Pp p2 s λ it t=>F it [] Bv t) (by rfl) (funext λ it=>Aau p0 (λ acc Z t=>k (.lst (rv acc)) t) 200 it none) e
def Zd:Bh 869 3:=Ce 3 1 ["world","op","kids","wanted"] (Ag (Br 3 (Cj (Ad (kC (Aa 1) kN)) (Em (kC Aea kN)))) (Ag (Bz (Anp (Aa 3) (Ak (Aa 0) (Ac 0x6f0003c0001c0000de0006c))) (Ag (Fe (Ak (Aa 0) (Ac 0x6f0003c0001c0000de0006c)) (Aa 3) (Cr (kC (Ak (Aa 0) (Ac 0x74000330001b8000e000069)) kN))) (Ag (Cn (B8 (Ak (Aa 0) (Ac 0x7400033000194000e00006f)) (kC (Ad (kC (Aa 1) (kC (Em (kC (Aa 2) kN)) kN))) kN))) (Ag (Cn (B8 (Ak (Aa 0) (Ac 0x74000330001b8000e000069)) (kC (Cr (kC (Ak (Aa 0) (Ac 0x74000330001b8000e000069)) kN)) kN))) At))) At) Ad9)) rfl (λ Z=>bd3 λ Z Z Z=>rfl) (by rfl)
def Ad8 (k:PV->PS->Bool) (p0:PV) (p1:PV) (p2:PV) (s:PS) (v9:PV):Bool:=Ar p0 (.str 0x74000330001b8000e000069) s λ v21=>Hs [v21] s λ v19 s=>Ar p0 (.str 0x6f0003c0001c0000de0006c) s λ v22=>Od v22 v9 v19 s λ s=>Ar p0 (.str 0x7400033000194000e00006f) s λ v25=>kL v25 s (Il [p2] s λ v26 s=>Dx [v25,(.tup [p1,v26])] s λ v23 s=>Ar p0 (.str 0x74000330001b8000e000069) s λ v30=>kL v30 s (Ar p0 (.str 0x74000330001b8000e000069) s λ v33=>Hs [v33] s λ v31 s=>Dx [v30,v31] s λ v28 s=>G1 p0 v9 s k))
def Ze (p0:PV) (p1:PV) (p2:PV) (s:PS) (k:PV->PS->Bool):Bool:=Pn p0 p2 s (λ v13 s=>Il [v13] s λ v11 s=>Qn (.tup [p1]) v11 s λ v9 s=>Ar p0 (.str 0x6f0003c0001c0000de0006c) s λ v17=>Ap7 v9 v17 s λ b15 s=>bC (G1 p0 v9 s k) (Ad8 k p0 p1 p2 s v9) b15)
theorem Ajs:OF 869 3 Zd.n (li3 Ze):=lw3 Zd λ p0 p1 p2 s k=>by rfl
end
def Uq:T3:=Ze
def Aey:Lm 869:=⟨Uq,_,Ajs⟩
section
variable (g0:T3) (d0:Lm 874) (g1:T3) (d1:Lm 869)
def G5 (κ:KA) (F:PV->It->KA) (it:It) (acc:List PV) (b:Nat) (s:PS):Bool:=G7 it s (κ acc b s) λ x it=>g0 p1 x p2 s λ v1 s=>@Nat.rec (λ Z=>Bool) false (λ b Z=>F x it (v1::acc) b s) b
def Py (κ:KA) (n:Nat):It->KA:=@Nat.rec (λ Z=>It->KA) (λ Z Z Z Z=>false) (λ Z ih=>G5 p1 p2 g0 κ λ Z=>ih) n
def Pw (κ:KA) (n:Nat) (it:It) (o0:OP):KA:=λ acc b s=>Bl (gN 0).f (Be (Ai d0.c (kC (Aa 1) (kC (Aa 0) (kC (Aa 2) kN)))).f) n it [o0,some p1,some p2] acc b s λ Z=>κ
theorem Aa1 (κ:KA) (n:Nat):∀ (it:It) (o0:OP),Pw p1 p2 d0 κ n it o0=Py p1 p2 d0.g κ n it:=by
 induction n with
 | zero=>exact λ it o0=>by rfl
 | succ n ih=>exact λ it o0=>Eq.trans (b:=G5 p1 p2 d0.g κ (λ t0 it=>Pw p1 p2 d0 κ n it (some t0)) it) (by rfl) (congrArg (λ F=>G5 p1 p2 d0.g κ F it) (funext λ t0=>funext λ it=>ih it (some t0)))
def Px (K:It->PS->Bool):Bool:=Ll p1 (.int 1) λ v5=>Bn v5 s λ t3 s=>K t3 s
def G4:Bool:=Px p1 s λ it t=>Py p0 p2 g0 (λ acc Z t=>k (.lst (rv acc)) t) 200 it [] Bv t
def Aee:CE:=wkE (B9 (Wp 1 [0,2] (iK (Dn (Aa 1) (Al 1))) (gN 0) (Ai d0.c (kC (Aa 1) (kC (Aa 0) (kC (Aa 2) kN)))))) (λ ρ s k=>ex3 ρ λ o0 o1 o2 r=>oC (λ p0=>oC (λ p1=>oC (λ p2=>G4 p0 p1 p2 s k d0.g) o2) o1) o0) λ ρ s k=>λ e=>xc3 e λ o0 o1 o2 r e=>cO e λ p0 e=>cO e λ p1 e=>cO e λ p2 e=>No (λ (F:It->KA)=>Px p1 s λ it t=>F it [] Bv t) (by rfl) (funext λ it=>Aa1 p0 p2 d0 (λ acc Z t=>k (.lst (rv acc)) t) 200 it none) e
def Zu:Bh 874 3:=Ce 3 0 ["world","pattern","places"] (Ag (Bz (M2 (tEq (Cr (kC (Aa 1) kN)) (Al 1)) (tEq (Ak (Ak (Aa 1) (Al 0)) (Al 0)) (Ac 64))) (Ag (Ay (kIf (tIn (Ak (Aa 1) (Al 0)) (Aa 2)) (Ak (Aa 2) (Ak (Aa 1) (Al 0))) (Ai d1.c (kC (Aa 0) (kC (Cj (Ac 0x2100033800188000cc0006d) (Ak (Aa 1) (Al 0))) (kC (Cf kN) kN)))))) At) At) (Ag (Ay (Ai d1.c (kC (Aa 0) (kC (Ak (Aa 1) (Al 0)) (kC (Aee d0) kN))))) At)) rfl (λ Z=>bd3 λ Z Z Z=>rfl) (by rfl)
def Aed (g0:T3) (g1:T3) (k:PV->PS->Bool) (p0:PV) (p1:PV) (p2:PV) (s:PS):Bool:=Ar p1 (.int 0) s λ v17=>Ar v17 (.int 0) s λ v16=>pEq v16 (.str 64) s λ b14 s=>bC (Ar p1 (.int 0) s λ v20=>G4 p0 p1 p2 s (λ v21 s=>g1 p0 v20 v21 s λ v18 s=>k v18 s) g0) ((λ (j23:PV->PS->Bool)=>Ar p1 (.int 0) s λ v28=>pIn v28 p2 s λ b26 s=>bC (Ar p1 (.int 0) s λ v33=>Qn (.str 0x2100033800188000cc0006d) v33 s λ v31 s=>Am (.list []) s λ i34 s=>g1 p0 v31 (.obj i34) s λ v29 s=>j23 v29 s) (Ar p1 (.int 0) s λ v37=>Ar p2 v37 s λ v36=>j23 v36 s) b26) (λ v24 s=>k v24 s)) b14
def Zv (p0:PV) (p1:PV) (p2:PV) (s:PS) (k:PV->PS->Bool):Bool:=(λ (j8:PS->Bool)=>Hs [p1] s λ v12 s=>pEq v12 (.int 1) s λ b10 s=>bC (j8 s) (Aed g0 g1 k p0 p1 p2 s) b10) (λ s=>Ar p1 (.int 0) s λ v40=>G4 p0 p1 p2 s (λ v41 s=>g1 p0 v40 v41 s λ v38 s=>k v38 s) g0)
theorem Aju:OF 874 3 (Zu d0 d1).n (li3 (Zv d0.g d1.g)):=lw3 (Zu d0 d1) λ p0 p1 p2 s k=>by rfl
end
def Cs (n:Nat):T3:=@Nat.rec (λ Z=>T3) (λ Z Z Z Z Z=>false) (λ Z ih=>Zv ih Uq) n
def Uu (n:Nat):PSigma λ m=>OF 874 3 m (li3 (Cs n)):=@Nat.rec (λ n=>PSigma λ m=>OF 874 3 m (li3 (Cs n))) ⟨0,A2a 874⟩ (λ n ih=>⟨_,Aju ⟨Cs n,ih.1,ih.2⟩ Aey⟩) n
def Ui (n:Nat):Lm 874:=⟨Cs n,(Uu n).1,(Uu n).2⟩
section
def G3 (κ:KA) (F:PV->It->KA) (it:It) (acc:List PV) (b:Nat) (s:PS):Bool:=G7 it s (κ acc b s) λ x it=>(λ (j1:PV->PS->Bool)=>pEq x p2 s λ b4 s=>bC (j1 x s) (j1 p1 s) b4) (λ v2 s=>@Nat.rec (λ Z=>Bool) false (λ b Z=>F x it (v2::acc) b s) b)
def Pv (κ:KA) (n:Nat):It->KA:=@Nat.rec (λ Z=>It->KA) (λ Z Z Z Z=>false) (λ Z ih=>G3 p1 p2 κ λ Z=>ih) n
def Ps (κ:KA) (n:Nat) (it:It) (o0:OP):KA:=λ acc b s=>Bl (gN 0).f (Be (kIf (tEq (Aa 0) (Aa 2)) (Aa 1) (Aa 0)).f) n it [o0,some p1,some p2] acc b s λ Z=>κ
theorem Aa0 (κ:KA) (n:Nat):∀ (it:It) (o0:OP),Ps p1 p2 κ n it o0=Pv p1 p2 κ n it:=by
 induction n with
 | zero=>exact λ it o0=>by rfl
 | succ n ih=>exact λ it o0=>Eq.trans (b:=G3 p1 p2 κ (λ t0 it=>Ps p1 p2 κ n it (some t0)) it) (by rfl) (congrArg (λ F=>G3 p1 p2 κ F it) (funext λ t0=>funext λ it=>ih it (some t0)))
def Pu (K:It->PS->Bool):Bool:=Ar p0 (.str 0x74000330001b8000e000069) s λ v8=>Bn v8 s λ t6 s=>K t6 s
def Pr:Bool:=Pu p0 s λ it t=>Pv p3 p4 (λ acc Z t=>Am (.list (rv acc)) t λ i t=>k (.obj i) t) 200 it [] Bv t
def Aec:CE:=wkE (Tr (Wp 1 [3,4] (iK (Ak (Aa 0) (Ac 0x74000330001b8000e000069))) (gN 0) (kIf (tEq (Aa 0) (Aa 2)) (Aa 1) (Aa 0)))) (λ ρ s k=>ex5 ρ λ o0 o1 o2 o3 o4 r=>oC (λ p0=>oC (λ p3=>oC (λ p4=>Pr p0 p3 p4 s k) o4) o3) o0) λ ρ s k=>λ e=>xc5 e λ o0 o1 o2 o3 o4 r e=>cO e λ p0 e=>cO e λ p3 e=>cO e λ p4 e=>No (λ (F:It->KA)=>Pu p0 s λ it t=>F it [] Bv t) (by rfl) (funext λ it=>Aa0 p3 p4 (λ acc Z t=>Am (.list (rv acc)) t λ i t=>k (.obj i) t) 200 it none) e
def Zs:Bh 879 3:=Ce 3 2 ["world","a","b","low","high"] (Ag (Vx (Lq (Cm (gN 3) (Cm (gN 4) Lp))) (Rt (kC (Fk (kC (Ak (Ak (Aa 0) (Ac 0x74000330001b8000e000069)) (Aa 1)) (kC (Ak (Ak (Aa 0) (Ac 0x74000330001b8000e000069)) (Aa 2)) kN))) kN))) (Ag (Fe (Aa 0) (Ac 0x74000330001b8000e000069) Aec) At)) rfl (λ Z=>bd3 λ Z Z Z=>rfl) (by rfl)
def Zt (p0:PV) (p1:PV) (p2:PV) (s:PS) (k:PV->PS->Bool):Bool:=Ar p0 (.str 0x74000330001b8000e000069) s λ v12=>Ar v12 p1 s λ v11=>Ar p0 (.str 0x74000330001b8000e000069) s λ v14=>Ar v14 p2 s λ v13=>Ss [(.lst [v11,v13])] s λ v9 s=>Ht v9 s λ l15=>bC false (lC false (λ x16 l17=>lC false (λ x18 l19=>lC (Pr p0 x16 x18 s (λ v21 s=>Od p0 (.str 0x74000330001b8000e000069) v21 s λ s=>k .none s)) F2 l19) l17) l15) (Nat.beq (len l15) 2)
theorem Ajt:OF 879 3 Zs.n (li3 Zt):=lw3 Zs λ p0 p1 p2 s k=>by rfl
end
def L6:T3:=Zt
def Uh:Lm 879:=⟨L6,_,Ajt⟩
section
variable (g1:T3) (d1:Lm 879)
def Kr (kn:Ko) (F:It->Ko) (it:It) (o6:OP) (s:PS):Bool:=G7 it s (kn o6 s) λ x it=>Ar p0 (.str 0x3a0001e0000e000073) s λ v12=>Ar p0 (.str 0x74000330001b8000e000069) s λ v14=>Ar p0 (.str 0x6f0003c0001c0000de0006c) s λ v16=>Ar v16 x s λ v15=>Ar v14 v15 s λ v13=>Ar v12 v13 s λ v11=>kL v11 s (Dx [v11,x] s λ v9 s=>F it (some x) s)
def Kq (kn:Ko) (n:Nat):It->Ko:=@Nat.rec (λ Z=>It->Ko) (λ Z Z Z=>false) (λ Z=>Kr p0 kn) n
def Kn (K:It->PS->Bool):Bool:=Ar p0 (.str 0x6f0003c0001c0000de0006c) s λ v19=>Bn v19 s λ t17 s=>K t17 s
def Kl:Np:=Ag (Cn (B8 (Ak (Ak (Aa 0) (Ac 0x3a0001e0000e000073)) (Ak (Ak (Aa 0) (Ac 0x74000330001b8000e000069)) (Ak (Ak (Aa 0) (Ac 0x6f0003c0001c0000de0006c)) (Aa 6)))) (kC (Aa 6) kN))) At
def Km (kn:Ko):Bool:=Kn p0 s λ it t=>Kq p0 kn 200 it o6 t
def V8 (n:Nat):It->Ko:=λ it o6 s=>Ej (gN 6).f Kl.f n it (some p0::o1::o2::o3::o4::o5::o6::r) s kl kr
theorem V7 (n:Nat):V8 p0 o1 o2 o3 o4 o5 kr r kl n=Kq p0 (λ o6 s=>kl (some p0::o1::o2::o3::o4::o5::o6::r) s) n:=Mj (Kr p0 (λ o6 s=>kl (some p0::o1::o2::o3::o4::o5::o6::r) s)) (by rfl) (λ n=>by rfl) (λ n=>rfl) n
def Zh:CS:=wkS (Gx (iK (Ak (Aa 0) (Ac 0x6f0003c0001c0000de0006c))) (gN 6) Kl) (λ ρ s kl kr=>ex7 ρ λ o0 o1 o2 o3 o4 o5 o6 r=>oC (λ p0=>Km p0 o6 s (λ x6 t=>kl (some p0::o1::o2::o3::o4::o5::x6::r) t)) o0) λ ρ s kl kr=>λ e=>xc7 e λ o0 o1 o2 o3 o4 o5 o6 r e=>cO e λ p0 e=>No (λ (F:It->Ko)=>Kn p0 s λ it t=>F it o6 t) (by rfl) (V7 p0 o1 o2 o3 o4 o5 kr r kl 200) e
def Er (κ:KA) (F:PV->It->KA) (it:It) (acc:List PV) (b:Nat) (s:PS):Bool:=G7 it s (κ acc b s) λ x it=>Am (.list []) s λ i20 s=>@Nat.rec (λ Z=>Bool) false (λ b Z=>F x it ((.tup [x,(.obj i20)])::acc) b s) b
def Kg (κ:KA) (n:Nat):It->KA:=@Nat.rec (λ Z=>It->KA) (λ Z Z Z Z=>false) (λ Z ih=>Er κ λ Z=>ih) n
def Ke (κ:KA) (n:Nat) (it:It) (o0:OP):KA:=λ acc b s=>Bl (gN 0).f (Be (Ad (kC (Aa 0) (kC (Cf kN) kN))).f) n it [o0] acc b s λ Z=>κ
theorem V5 (κ:KA) (n:Nat):∀ (it:It) (o0:OP),Ke κ n it o0=Kg κ n it:=by
 induction n with
 | zero=>exact λ it o0=>by rfl
 | succ n ih=>exact λ it o0=>Eq.trans (b:=Er κ (λ t0 it=>Ke κ n it (some t0)) it) (by rfl) (congrArg (λ F=>Er κ F it) (funext λ t0=>funext λ it=>ih it (some t0)))
def Kf (K:It->PS->Bool):Bool:=Ar p0 (.str 0x74000330001b8000e000069) s λ v26=>Mh (eC v26) [] s λ v24 s=>Bn v24 s λ t22 s=>K t22 s
def Kd:Bool:=Kf p0 s λ it t=>Kg (λ acc Z t=>Am (.list (rv acc)) t λ i t=>k (.obj i) t) 200 it [] Bv t
def Zf:CE:=wkE (Tr (Wp 1 [] (iK (Si (Ak (Aa 0) (Ac 0x74000330001b8000e000069)))) (gN 0) (Ad (kC (Aa 0) (kC (Cf kN) kN))))) (λ ρ s k=>ex1 ρ λ o0 r=>oC (λ p0=>Kd p0 s k) o0) λ ρ s k=>λ e=>xc1 e λ o0 r e=>cO e λ p0 e=>No (λ (F:It->KA)=>Kf p0 s λ it t=>F it [] Bv t) (by rfl) (funext λ it=>V5 (λ acc Z t=>Am (.list (rv acc)) t λ i t=>k (.obj i) t) 200 it none) e
def Es (κ:KA) (F:PV->It->KA) (it:It) (acc:List PV) (b:Nat) (s:PS):Bool:=G7 it s (κ acc b s) λ x it=>Ar p1 (.str 0x74000330001b8000e000069) s λ v28=>Ar v28 x s λ v27=>@Nat.rec (λ Z=>Bool) false (λ b Z=>F x it (v27::acc) b s) b
def Kk (κ:KA) (n:Nat):It->KA:=@Nat.rec (λ Z=>It->KA) (λ Z Z Z Z=>false) (λ Z ih=>Es p1 κ λ Z=>ih) n
def Ki (κ:KA) (n:Nat) (it:It) (o0:OP):KA:=λ acc b s=>Bl (gN 0).f (Be (Ak (Ak (Aa 1) (Ac 0x74000330001b8000e000069)) (Aa 0)).f) n it [o0,some p1] acc b s λ Z=>κ
theorem V6 (κ:KA) (n:Nat):∀ (it:It) (o0:OP),Ki p1 κ n it o0=Kk p1 κ n it:=by
 induction n with
 | zero=>exact λ it o0=>by rfl
 | succ n ih=>exact λ it o0=>Eq.trans (b:=Es p1 κ (λ t0 it=>Ki p1 κ n it (some t0)) it) (by rfl) (congrArg (λ F=>Es p1 κ F it) (funext λ t0=>funext λ it=>ih it (some t0)))
def Kj (K:It->PS->Bool):Bool:=Bn p4 s λ t29 s=>K t29 s
def Kh:Bool:=Kj p4 s λ it t=>Kk p0 (λ acc Z t=>k (.lst (rv acc)) t) 200 it [] Bv t
def Zg:CE:=wkE (B9 (Wp 1 [0] (iK (Aa 4)) (gN 0) (Ak (Ak (Aa 1) (Ac 0x74000330001b8000e000069)) (Aa 0)))) (λ ρ s k=>ex5 ρ λ o0 o1 o2 o3 o4 r=>oC (λ p0=>oC (λ p4=>Kh p0 p4 s k) o4) o0) λ ρ s k=>λ e=>xc5 e λ o0 o1 o2 o3 o4 r e=>cO e λ p0 e=>cO e λ p4 e=>No (λ (F:It->KA)=>Kj p4 s λ it t=>F it [] Bv t) (by rfl) (funext λ it=>V6 p0 (λ acc Z t=>k (.lst (rv acc)) t) 200 it none) e
def Kw (kn:C3) (F:It->C3) (it:It) (o1:OP) (o2:OP) (o3:OP) (o4:OP) (o5:OP) (s:PS):Bool:=G7 it s (kn o1 o2 o3 o4 o5 s) λ x it=>Ht x s λ l58=>bC false (lC false (λ x59 l60=>lC false (λ x61 l62=>Ht x61 s λ l63=>bC false (lC false (λ x64 l65=>lC false (λ x66 l67=>lC (lC (Ar p0 (.str 0x6f0003c0001c0000de0006c) s λ v70=>kD v70 s (Kh p0 x66 s (λ v75 s=>Il [v75] s λ v73 s=>Qn (.tup [x64]) v73 s λ v71 s=>Alm [v70,v71,x59] s λ v68 s=>Ar p0 (.str 0x74000330001b8000e000069) s λ v80=>Ar v80 v68 s λ v79=>Ar p0 (.str 0x74000330001b8000e000069) s λ v82=>Ar v82 x59 s λ v81=>pNe v79 v81 s λ b77 s=>bC (F it o1 (some x59) (some x64) (some x66) (some v68) s) (g1 p0 v68 x59 s λ v83 s=>F it (some (.bool true)) (some x59) (some x64) (some x66) (some v68) s) b77))) F2 l62) F2 l67) l65) l63) (Nat.beq (len l63) 2)) l60) l58) (Nat.beq (len l58) 2)
def Kv (kn:C3) (n:Nat):It->C3:=@Nat.rec (λ Z=>It->C3) (λ Z Z Z Z Z Z Z=>false) (λ Z=>Kw p0 g1 kn) n
def Ku (K:It->PS->Bool):Bool:=Ar p0 (.str 0x7400033000194000e00006f) s λ v87=>Af2 (lV [v87]) [] s λ t85 s=>K t85 s
def Ks:Np:=Ag (Br 5 (Ak8 (Ak (Aa 0) (Ac 0x6f0003c0001c0000de0006c)) (kC (Cj (Ad (kC (Aa 3) kN)) (Em (kC Zg kN))) (kC (Aa 2) kN)))) (Ag (Bz (tNe (Ak (Ak (Aa 0) (Ac 0x74000330001b8000e000069)) (Aa 5)) (Ak (Ak (Aa 0) (Ac 0x74000330001b8000e000069)) (Aa 2))) (Ag (Cn (Ai d1.c (kC (Aa 0) (kC (Aa 5) (kC (Aa 2) kN))))) (Ag (Br 1 (Dm true)) At)) At) At)
def Kt (kn:C3):Bool:=Ku p0 s λ it t=>Kv p0 g1 kn 200 it o1 o2 o3 o4 o5 t
def Wa (n:Nat):It->C3:=λ it o1 o2 o3 o4 o5 s=>Ej (Lq (Cm (gN 2) (Cm (Lq (Cm (gN 3) (Cm (gN 4) Lp))) Lp))).f (Ks d1).f n it (some p0::o1::o2::o3::o4::o5::r) s kl kr
theorem V9 (n:Nat):Wa p0 kr r kl d1 n=Kv p0 d1.g (λ o1 o2 o3 o4 o5 s=>kl (some p0::o1::o2::o3::o4::o5::r) s) n:=Mj (Kw p0 d1.g (λ o1 o2 o3 o4 o5 s=>kl (some p0::o1::o2::o3::o4::o5::r) s)) (by rfl) (λ n=>by rfl) (λ n=>rfl) n
def Zi:CS:=wkS (Gx (iEn (kC (Ak (Aa 0) (Ac 0x7400033000194000e00006f)) kN)) (Lq (Cm (gN 2) (Cm (Lq (Cm (gN 3) (Cm (gN 4) Lp))) Lp))) (Ks d1)) (λ ρ s kl kr=>ex6 ρ λ o0 o1 o2 o3 o4 o5 r=>oC (λ p0=>Kt p0 o1 o2 o3 o4 o5 s d1.g (λ x1 x2 x3 x4 x5 t=>kl (some p0::x1::x2::x3::x4::x5::r) t)) o0) λ ρ s kl kr=>λ e=>xc6 e λ o0 o1 o2 o3 o4 o5 r e=>cO e λ p0 e=>No (λ (F:It->C3)=>Ku p0 s λ it t=>F it o1 o2 o3 o4 o5 t) (by rfl) (V9 p0 kr r kl d1 200) e
def K1 (kn:C3) (F:C3) (o1:OP) (o2:OP) (o3:OP) (o4:OP) (o5:OP) (s:PS):Bool:=oC (λ v123=>Nm (λ b121=>bC (kn o1 o2 o3 o4 o5 s) (Am (.dict [] true) s λ i124 s=>Ht (.tup [(.bool false),(.obj i124)]) s λ l126=>bC false (lC false (λ x127 l128=>lC false (λ x129 l130=>Od p0 (.str 0x6f0003c0001c0000de0006c) x129 s λ s=>lC (Kt p0 (some x127) o2 o3 o4 o5 s g1 (λ x132 x133 x134 x135 x136 s=>F x132 x133 x134 x135 x136 s)) F2 l130) l128) l126) (Nat.beq (len l126) 2)) b121) v123) o1
def Kz (kn:C3) (n:Nat):C3:=@Nat.rec (λ Z=>C3) (λ Z Z Z Z Z Z=>false) (λ Z=>K1 p0 g1 kn) n
def Kx:Np:=Ag (Vx (Lq (Cm (gN 1) (Cm (gS (Aa 0) (Ac 0x6f0003c0001c0000de0006c)) Lp))) (Ad (kC (Dm false) (kC C7 kN)))) (Ag (Zi d1) At)
def Ky (kn:C3):Bool:=Kz p0 g1 kn 200 o1 o2 o3 o4 o5 s
def Wc (n:Nat):C3:=λ o1 o2 o3 o4 o5 s=>T7 (V4 (Aa 1)).f (Kx d1).f n (some p0::o1::o2::o3::o4::o5::r) s kl kr
theorem Wb (n:Nat):Wc p0 kr r kl d1 n=Kz p0 d1.g (λ o1 o2 o3 o4 o5 s=>kl (some p0::o1::o2::o3::o4::o5::r) s) n:=Mj (K1 p0 d1.g (λ o1 o2 o3 o4 o5 s=>kl (some p0::o1::o2::o3::o4::o5::r) s)) (by rfl) (λ n=>by rfl) (λ n=>rfl) n
def Zj:CS:=wkS (kWh (V4 (Aa 1)) (Kx d1)) (λ ρ s kl kr=>ex6 ρ λ o0 o1 o2 o3 o4 o5 r=>oC (λ p0=>Ky p0 o1 o2 o3 o4 o5 s d1.g (λ x1 x2 x3 x4 x5 t=>kl (some p0::x1::x2::x3::x4::x5::r) t)) o0) λ ρ s kl kr=>λ e=>xc6 e λ o0 o1 o2 o3 o4 o5 r e=>cO e λ p0 e=>No (λ (F:C3)=>F o1 o2 o3 o4 o5 s) (by rfl) (Wb p0 kr r kl d1 200) e
def S0:Bh 884 1:=Ce 1 6 ["world","is_open","n","op","kids","first","node"] (Ag (Br 1 (Dm true)) (Ag (Zj d1) (Ag (Fe (Aa 0) (Ac 0x3a0001e0000e000073) (Abh (kC Zf kN))) (Ag Zh At)))) rfl (λ Z=>Ru λ Z=>rfl) (by rfl)
def S1 (p0:PV) (s:PS) (k:PV->PS->Bool):Bool:=Ky p0 (some (.bool true)) none none none none s g1 (λ x138 x139 x140 x141 x142 s=>Kd p0 s (λ v147 s=>Ab6 [v147] s λ v145 s=>Od p0 (.str 0x3a0001e0000e000073) v145 s λ s=>Km p0 none s (λ x149 s=>k .none s)))
theorem Aeb:OF 884 1 (S0 d1).n (li1 (S1 d1.g)):=U7 (S0 d1) λ p0 s k=>by rfl
end
def Ed:T1:=S1 L6
def Ox:Cg 884:=⟨Ed,_,Aeb Uh⟩
section
variable (g0:T4) (d0:CD4 889)
def F8 (κ:KA) (F:PV->It->KA) (it:It) (acc:List PV) (b:Nat) (s:PS):Bool:=G7 it s (κ acc b s) λ x it=>Agn x p1 s λ b1 s=>bC (F x it acc b s) (@Nat.rec (λ Z=>Bool) false (λ b Z=>F x it (x::acc) b s) b) b1
def M7 (κ:KA) (n:Nat):It->KA:=@Nat.rec (λ Z=>It->KA) (λ Z Z Z Z=>false) (λ Z ih=>F8 p1 κ λ Z=>ih) n
def M5 (κ:KA) (n:Nat) (it:It) (o0:OP):KA:=λ acc b s=>Bl (gN 0).f (cIf (Aw0 (Aa 0) (Aa 1)).f (Be (Aa 0).f)) n it [o0,some p1] acc b s λ Z=>κ
theorem Zk (κ:KA) (n:Nat):∀ (it:It) (o0:OP),M5 p1 κ n it o0=M7 p1 κ n it:=by
 induction n with
 | zero=>exact λ it o0=>by rfl
 | succ n ih=>exact λ it o0=>Eq.trans (b:=F8 p1 κ (λ t0 it=>M5 p1 κ n it (some t0)) it) (by rfl) (congrArg (λ F=>F8 p1 κ F it) (funext λ t0=>funext λ it=>ih it (some t0)))
def M6 (K:It->PS->Bool):Bool:=Bn p6 s λ t3 s=>K t3 s
def M4:Bool:=M6 p6 s λ it t=>M7 p4 (λ acc Z t=>k (.lst (rv acc)) t) 200 it [] Bv t
def Aaw:CE:=wkE (B9 (cc2 1 [4] (iK (Aa 6)) (gN 0) (Aw0 (Aa 0) (Aa 1)) (Aa 0))) (λ ρ s k=>ex7 ρ λ o0 o1 o2 o3 o4 o5 o6 r=>oC (λ p4=>oC (λ p6=>M4 p4 p6 s k) o6) o4) λ ρ s k=>λ e=>xc7 e λ o0 o1 o2 o3 o4 o5 o6 r e=>cO e λ p4 e=>cO e λ p6 e=>No (λ (F:It->KA)=>M6 p6 s λ it t=>F it [] Bv t) (by rfl) (funext λ it=>Zk p4 (λ acc Z t=>k (.lst (rv acc)) t) 200 it none) e
def D0 (κ:KA) (F:PV->It->KA) (it:It) (acc:List PV) (b:Nat) (s:PS):Bool:=G7 it s (κ acc b s) λ x it=>@Nat.rec (λ Z=>Bool) false (λ b Z=>F x it (x::acc) b s) b
def Nb (κ:KA) (n:Nat):It->KA:=@Nat.rec (λ Z=>It->KA) (λ Z Z Z Z=>false) (λ Z ih=>D0 κ λ Z=>ih) n
def F9 (KK:Ax->KA) (n:Nat) (it:It) (o0:OP) (o1:OP):KA:=λ acc b s=>Bl (gN 1).f (Be (Aa 1).f) n it [o0,o1,some p2,some p3,some p4] acc b s KK
theorem Zm (KK:Ax->KA) (κ:KA) (H:∀ (o0:OP) (o1:OP),KK [o0,o1,some p2,some p3,some p4]=κ) (n:Nat):∀ (it:It) (o0:OP) (o1:OP),F9 p2 p3 p4 KK n it o0 o1=Nb κ n it:=by
 induction n with
 | zero=>exact λ it o0 o1=>by rfl
 | succ n ih=>exact λ it o0 o1=>Eq.trans (b:=D0 (KK [o0,o1,some p2,some p3,some p4]) (λ t1 it=>F9 p2 p3 p4 KK n it o0 (some t1)) it) (by rfl) ((congrArg (λ x=>D0 x _ it) (H o0 o1)).trans (congrArg (λ F=>D0 κ F it) (funext λ t1=>funext λ it=>ih it o0 (some t1))))
def Gb (κ:KA) (F:PV->It->It->KA) (it:It) (acc:List PV) (b:Nat) (s:PS):Bool:=G7 it s (κ acc b s) λ x it=>g0 p2 p3 p4 x s λ v7 s=>Bn v7 s λ t5 s=>F x it t5 acc b s
def Ga (κ:KA) (n:Nat):It->KA:=@Nat.rec (λ Z=>It->KA) (λ Z Z Z Z=>false) (λ Z ih=>Gb p2 p3 p4 g0 κ λ p0 it=>Nb (ih it) 200) n
def Zn (κ:KA) (n:Nat) (it:It) (o0:OP) (o1:OP):KA:=λ acc b s=>Bl (gN 0).f (Tk 200 (iK (Ai d0.c (kC (Aa 2) (kC (Aa 3) (kC (Aa 4) (kC (Aa 0) kN)))))).f (gN 1).f (Be (Aa 1).f)) n it [o0,o1,some p2,some p3,some p4] acc b s λ Z=>κ
theorem Zl (κ:KA) (n:Nat):∀ (it:It) (o0:OP) (o1:OP),Zn p2 p3 p4 d0 κ n it o0 o1=Ga p2 p3 p4 d0.g κ n it:=by
 induction n with
 | zero=>exact λ it o0 o1=>by rfl
 | succ n ih=>exact λ it o0 o1=>Eq.trans (b:=Gb p2 p3 p4 d0.g κ (λ t0 it it2=>F9 p2 p3 p4 (λ ρ acc b s=>Bl (gN 0).f (Tk 200 (iK (Ai d0.c (kC (Aa 2) (kC (Aa 3) (kC (Aa 4) (kC (Aa 0) kN)))))).f (gN 1).f (Be (Aa 1).f)) n it ρ acc b s λ Z=>κ) 200 it2 (some t0) o1) it) (by rfl) (congrArg (λ F=>Gb p2 p3 p4 d0.g κ F it) (funext λ t0=>funext λ it=>funext λ it2=>Zm p2 p3 p4 (λ ρ acc b s=>Bl (gN 0).f (Tk 200 (iK (Ai d0.c (kC (Aa 2) (kC (Aa 3) (kC (Aa 4) (kC (Aa 0) kN)))))).f (gN 1).f (Be (Aa 1).f)) n it ρ acc b s λ Z=>κ) (Ga p2 p3 p4 d0.g κ n it) (λ o0 o1=>ih it o0 o1) 200 it2 (some t0) o1))
def Na (K:It->PS->Bool):Bool:=Bn p6 s λ t9 s=>K t9 s
def M9:Bool:=Na p6 s λ it t=>Ga p0 p7 p8 g0 (λ acc Z t=>k (.lst (rv acc)) t) 200 it [] Bv t
def Aax:CS:=wkS (Ml 6 (cc3 2 [0,7,8] (iK (Aa 6)) (gN 0) (iK (Ai d0.c (kC (Aa 2) (kC (Aa 3) (kC (Aa 4) (kC (Aa 0) kN)))))) (gN 1) (Aa 1))) (λ ρ s kl kr=>ex9 ρ λ o0 o1 o2 o3 o4 o5 o6 o7 o8 r=>oC (λ p0=>oC (λ p6=>oC (λ p7=>oC (λ p8=>M9 p0 p6 p7 p8 s (λ x t=>kl (some p0::o1::o2::o3::o4::o5::some x::some p7::some p8::r) t) d0.g) o8) o7) o6) o0) λ ρ s kl kr=>λ e=>xc9 e λ o0 o1 o2 o3 o4 o5 o6 o7 o8 r e=>cO e λ p0 e=>cO e λ p6 e=>cO e λ p7 e=>cO e λ p8 e=>No (λ (F:It->KA)=>Na p6 s λ it t=>F it [] Bv t) (by rfl) (funext λ it=>Zl p0 p7 p8 d0 (λ acc Z t=>(λ x t=>kl (some p0::o1::o2::o3::o4::o5::some x::some p7::some p8::r) t) (PV.lst (rv acc)) t) 200 it none none) e
def Nh (kn:Fh) (F:It->Fh) (it:It) (p6:PV) (o7:OP) (o8:OP) (s:PS):Bool:=G7 it s (kn p6 o7 o8 s) λ x it=>Ht x s λ l18=>bC false (lC false (λ x19 l20=>lC false (λ x21 l22=>lC (M9 p0 p6 x19 x21 s (λ x23 s=>F it x23 (some x19) (some x21) s) g0) F2 l22) l20) l18) (Nat.beq (len l18) 2)
def Ng (kn:Fh) (n:Nat):It->Fh:=@Nat.rec (λ Z=>It->Fh) (λ Z Z Z Z Z=>false) (λ Z=>Nh p0 g0 kn) n
def Nf (K:It->PS->Bool):Bool:=Ll p5 (.int 1) λ v27=>Ll p2 (.int 1) λ v28=>Ams (lV [v27,v28]) [] s λ t25 s=>K t25 s
def Nc:Np:=Ag (Aax d0) At
def Nd (kn:Fh):Bool:=Nf p2 p5 s λ it t=>Ng p0 g0 kn 200 it p6 o7 o8 t
def Zp (n:Nat):It->Fh:=λ it p6 o7 o8 s=>Ej (Lq (Cm (gN 7) (Cm (gN 8) Lp))).f (Nc d0).f n it (some p0::o1::o2::o3::o4::o5::some p6::o7::o8::r) s kl kr
theorem Zo (n:Nat):Zp p0 o1 o2 o3 o4 o5 kr r kl d0 n=Ng p0 d0.g (λ p6 o7 o8 s=>kl (some p0::o1::o2::o3::o4::o5::some p6::o7::o8::r) s) n:=Mj (Nh p0 d0.g (λ p6 o7 o8 s=>kl (some p0::o1::o2::o3::o4::o5::some p6::o7::o8::r) s)) (by rfl) (λ n=>by rfl) (λ n=>rfl) n
def Aay:CS:=wkS (Gx (iZi (kC (Dn (Aa 5) (Al 1)) (kC (Dn (Aa 2) (Al 1)) kN))) (Lq (Cm (gN 7) (Cm (gN 8) Lp))) (Nc d0)) (λ ρ s kl kr=>ex9 ρ λ o0 o1 o2 o3 o4 o5 o6 o7 o8 r=>oC (λ p0=>oC (λ p2=>oC (λ p5=>oC (λ p6=>Nd p0 p2 p5 p6 o7 o8 s d0.g (λ x6 x7 x8 t=>kl (some p0::o1::some p2::o3::o4::some p5::some x6::x7::x8::r) t)) o6) o5) o2) o0) λ ρ s kl kr=>λ e=>xc9 e λ o0 o1 o2 o3 o4 o5 o6 o7 o8 r e=>cO e λ p0 e=>cO e λ p2 e=>cO e λ p5 e=>cO e λ p6 e=>No (λ (F:It->Fh)=>Nf p2 p5 s λ it t=>F it p6 o7 o8 t) (by rfl) (Zo p0 o1 (some p2) o3 o4 (some p5) kr r kl d0 200) e
def Ua (F:It->H3) (g0:T4) (it:It) (o6:OP) (o7:OP) (o8:OP) (p0:PV) (p2:PV) (p3:PV) (p4:PV) (s:PS) (x:PV):Bool:=Hs [x] s λ v63 s=>Hs [p2] s λ v65 s=>pEq v63 v65 s λ b61 s=>bC (F it p4 (some x) o6 o7 o8 s) (Am (.list [p3]) s λ i67 s=>Nd p0 p2 x (.obj i67) o7 o8 s g0 (λ x69 x70 x71 s=>M4 p4 x69 s (λ v75 s=>All p4 v75 s λ v73 s=>F it v73 (some x) (some x69) x70 x71 s))) b61
def Nl (kn:H3) (F:It->H3) (it:It) (p4:PV) (o5:OP) (o6:OP) (o7:OP) (o8:OP) (s:PS):Bool:=G7 it s (kn p4 o5 o6 o7 o8 s) λ x it=>(λ (j55:PS->Bool)=>Ar x (.int 0) s λ v59=>Ar p2 (.int 0) s λ v60=>pEq v59 v60 s λ b57 s=>bC (j55 s) (Ua F g0 it o6 o7 o8 p0 p2 p3 p4 s x) b57) (λ s=>F it p4 (some x) o6 o7 o8 s)
def Nk (kn:H3) (n:Nat):It->H3:=@Nat.rec (λ Z=>It->H3) (λ Z Z Z Z Z Z Z=>false) (λ Z=>Nl p0 p2 p3 g0 kn) n
def Nj (K:It->PS->Bool):Bool:=Ar p0 (.str 0x3a0001e0000e000073) s λ v80=>Ar v80 p1 s λ v79=>Bn v79 s λ t77 s=>K t77 s
def Ni:Np:=Ag (Bz (M2 (tEq (Ak (Aa 5) (Al 0)) (Ak (Aa 2) (Al 0))) (tEq (Cr (kC (Aa 5) kN)) (Cr (kC (Aa 2) kN)))) (Ag (Br 6 (Cf (kC (Aa 3) kN))) (Ag (Aay d0) (Ag (Br 4 (Apy (Aa 4) Aaw)) At))) At) At
def Gc (kn:H3):Bool:=Nj p0 p1 s λ it t=>Nk p0 p2 p3 g0 kn 200 it p4 o5 o6 o7 o8 t
def Zr (n:Nat):It->H3:=λ it p4 o5 o6 o7 o8 s=>Ej (gN 5).f (Ni d0).f n it (some p0::o1::some p2::some p3::some p4::o5::o6::o7::o8::r) s kl kr
theorem Zq (n:Nat):Zr p0 p2 p3 o1 kr r kl d0 n=Nk p0 p2 p3 d0.g (λ p4 o5 o6 o7 o8 s=>kl (some p0::o1::some p2::some p3::some p4::o5::o6::o7::o8::r) s) n:=Mj (Nl p0 p2 p3 d0.g (λ p4 o5 o6 o7 o8 s=>kl (some p0::o1::some p2::some p3::some p4::o5::o6::o7::o8::r) s)) (by rfl) (λ n=>by rfl) (λ n=>rfl) n
def Aaz:CS:=wkS (Gx (iK (Ak (Ak (Aa 0) (Ac 0x3a0001e0000e000073)) (Aa 1))) (gN 5) (Ni d0)) (λ ρ s kl kr=>ex9 ρ λ o0 o1 o2 o3 o4 o5 o6 o7 o8 r=>oC (λ p0=>oC (λ p1=>oC (λ p2=>oC (λ p3=>oC (λ p4=>Gc p0 p1 p2 p3 p4 o5 o6 o7 o8 s d0.g (λ x4 x5 x6 x7 x8 t=>kl (some p0::some p1::some p2::some p3::some x4::x5::x6::x7::x8::r) t)) o4) o3) o2) o1) o0) λ ρ s kl kr=>λ e=>xc9 e λ o0 o1 o2 o3 o4 o5 o6 o7 o8 r e=>cO e λ p0 e=>cO e λ p1 e=>cO e λ p2 e=>cO e λ p3 e=>cO e λ p4 e=>No (λ (F:It->H3)=>Nj p0 p1 s λ it t=>F it p4 o5 o6 o7 o8 t) (by rfl) (Zq p0 p2 p3 (some p1) kr r kl d0 200) e
def Vj:Bh 889 4:=Ce 4 5 ["world","home","pattern","places","found","node","rows","kid","part"] (Ag (Bz (M2 (tEq (Cr (kC (Aa 2) kN)) (Al 1)) (tEq (Ak (Ak (Aa 2) (Al 0)) (Al 0)) (Ac 64))) (Ag (Bz (tNe (Vz (Aa 3) (kC (Ak (Aa 2) (Al 0)) (kC (Aa 1) kN))) (Aa 1)) (Ag (Ay (Fk kN)) At) At) (Ag (Ay (Fk (kC (Abh (kC (Apy (A5b (Aa 3)) (Fk (kC (Ad (kC (Ak (Aa 2) (Al 0)) (kC (Aa 1) kN))) kN))) kN)) kN))) At)) At) (Ag (Br 4 (Cf kN)) (Ag (Aaz d0) (Ag (Ay (Aa 4)) At)))) rfl (λ Z=>bd4 λ Z Z Z Z=>rfl) (by rfl)
def Aav (g0:T4) (k:PV->PS->Bool) (p0:PV) (p1:PV) (p2:PV) (p3:PV) (s:PS):Bool:=Ar p2 (.int 0) s λ v92=>Ar v92 (.int 0) s λ v91=>pEq v91 (.str 64) s λ b89 s=>bC (Am (.list []) s λ i93 s=>Gc p0 p1 p2 p3 (.obj i93) none none none none s g0 (λ x95 x96 x97 x98 x99 s=>k x95 s)) (kD p3 s (Ar p2 (.int 0) s λ v105=>Ap5 [p3,v105,p1] s λ v103 s=>pNe v103 p1 s λ b101 s=>bC (Adh (eC p3) [] s λ v110 s=>Ar p2 (.int 0) s λ v112=>All v110 (.lst [(.tup [v112,p1])]) s λ v108 s=>Ab6 [v108] s λ v106 s=>k (.lst [v106]) s) (k (.lst []) s) b101)) b89
def Vk (p0:PV) (p1:PV) (p2:PV) (p3:PV) (s:PS) (k:PV->PS->Bool):Bool:=(λ (j83:PS->Bool)=>Hs [p2] s λ v87 s=>pEq v87 (.int 1) s λ b85 s=>bC (j83 s) (Aav g0 k p0 p1 p2 p3 s) b85) (λ s=>Am (.list []) s λ i113 s=>Gc p0 p1 p2 p3 (.obj i113) none none none none s g0 (λ x115 x116 x117 x118 x119 s=>k x115 s))
theorem Aha:OF 889 4 (Vj d0).n (li4 (Vk d0.g)):=lw4 (Vj d0) λ p0 p1 p2 p3 s k=>by rfl
end
def Ds (n:Nat):T4:=@Nat.rec (λ Z=>T4) (λ Z Z Z Z Z Z=>false) (λ Z ih=>Vk ih) n
def Ri (n:Nat):PSigma λ m=>OF 889 4 m (li4 (Ds n)):=@Nat.rec (λ n=>PSigma λ m=>OF 889 4 m (li4 (Ds n))) ⟨0,A2b 889⟩ (λ n ih=>⟨_,Aha ⟨Ds n,ih.1,ih.2⟩⟩) n
def Acr (n:Nat):CD4 889:=⟨Ds n,(Ri n).1,(Ri n).2⟩
section
variable (g1:T4) (d1:CD4 889) (g2:T3) (d2:Lm 879) (g3:T3) (d3:Lm 874) (g4:T1) (d4:Cg 884)
def La (kn:Ae9) (F:It->Ae9) (it:It) (o3:OP) (o4:OP) (o5:OP) (s:PS):Bool:=G7 it s (kn o3 o4 o5 s) λ x it=>Ht x s λ l13=>bC false (lC false (λ x14 l15=>lC false (λ x16 l17=>lC false (λ x18 l19=>lC (Au 0x75000348001a0000d400073 (λ v24=>g3 p0 v24 x18 s λ v22 s=>g2 p0 x16 v22 s λ v20 s=>F it (some x14) (some x16) (some x18) s) x14 s) F2 l19) l17) l15) l13) (Nat.beq (len l13) 3)
def K9 (kn:Ae9) (n:Nat):It->Ae9:=@Nat.rec (λ Z=>It->Ae9) (λ Z Z Z Z Z=>false) (λ Z=>La p0 g2 g3 kn) n
def K8 (K:It->PS->Bool):Bool:=Bn p2 s λ t25 s=>K t25 s
def K6:Np:=Ag (Cn (Ai d2.c (kC (Aa 0) (kC (Aa 4) (kC (Ai d3.c (kC (Aa 0) (kC (Af 0x75000348001a0000d400073 (Aa 3)) (kC (Aa 5) kN)))) kN))))) At
def K7 (kn:Ae9):Bool:=K8 p2 s λ it t=>K9 p0 g2 g3 kn 200 it o3 o4 o5 t
def Wf (n:Nat):It->Ae9:=λ it o3 o4 o5 s=>Ej (Lq (Cm (gN 3) (Cm (gN 4) (Cm (gN 5) Lp)))).f (K6 d2 d3).f n it (some p0::o1::o2::o3::o4::o5::r) s kl kr
theorem We (n:Nat):Wf p0 o1 o2 kr r kl d2 d3 n=K9 p0 d2.g d3.g (λ o3 o4 o5 s=>kl (some p0::o1::o2::o3::o4::o5::r) s) n:=Mj (La p0 d2.g d3.g (λ o3 o4 o5 s=>kl (some p0::o1::o2::o3::o4::o5::r) s)) (by rfl) (λ n=>by rfl) (λ n=>rfl) n
def Zx:CS:=wkS (Gx (iK (Aa 2)) (Lq (Cm (gN 3) (Cm (gN 4) (Cm (gN 5) Lp)))) (K6 d2 d3)) (λ ρ s kl kr=>ex6 ρ λ o0 o1 o2 o3 o4 o5 r=>oC (λ p0=>oC (λ p2=>K7 p0 p2 o3 o4 o5 s d2.g d3.g (λ x3 x4 x5 t=>kl (some p0::o1::some p2::x3::x4::x5::r) t)) o2) o0) λ ρ s kl kr=>λ e=>xc6 e λ o0 o1 o2 o3 o4 o5 r e=>cO e λ p0 e=>cO e λ p2 e=>No (λ (F:It->Ae9)=>K8 p2 s λ it t=>F it o3 o4 o5 t) (by rfl) (We p0 o1 (some p2) kr r kl d2 d3 200) e
def Et (κ:KA) (F:PV->It->KA) (it:It) (acc:List PV) (b:Nat) (s:PS):Bool:=G7 it s (κ acc b s) λ x it=>@Nat.rec (λ Z=>Bool) false (λ b Z=>F x it ((.tup [p1,p2,x])::acc) b s) b
def K5 (κ:KA) (n:Nat):It->KA:=@Nat.rec (λ Z=>It->KA) (λ Z Z Z Z=>false) (λ Z ih=>Et p1 p2 κ λ Z=>ih) n
def K3 (κ:KA) (n:Nat) (it:It) (o0:OP):KA:=λ acc b s=>Bl (gN 0).f (Be (Ad (kC (Aa 1) (kC (Aa 2) (kC (Aa 0) kN)))).f) n it [o0,some p1,some p2] acc b s λ Z=>κ
theorem Wd (κ:KA) (n:Nat):∀ (it:It) (o0:OP),K3 p1 p2 κ n it o0=K5 p1 p2 κ n it:=by
 induction n with
 | zero=>exact λ it o0=>by rfl
 | succ n ih=>exact λ it o0=>Eq.trans (b:=Et p1 p2 κ (λ t0 it=>K3 p1 p2 κ n it (some t0)) it) (by rfl) (congrArg (λ F=>Et p1 p2 κ F it) (funext λ t0=>funext λ it=>ih it (some t0)))
def K4 (K:It->PS->Bool):Bool:=Au 0x3a80019c000cc0006d (λ v31=>Am (.dict [] true) s λ i32 s=>g1 p0 p4 v31 (.obj i32) s λ v29 s=>Bn v29 s λ t27 s=>K t27 s) p3 s
def K2:Bool:=K4 p0 p3 p4 s g1 λ it t=>K5 p3 p4 (λ acc Z t=>k (.lst (rv acc)) t) 200 it [] Bv t
def Zw:CE:=wkE (B9 (Wp 1 [3,4] (iK (Ai d1.c (kC (Aa 0) (kC (Aa 4) (kC (Af 0x3a80019c000cc0006d (Aa 3)) (kC C7 kN)))))) (gN 0) (Ad (kC (Aa 1) (kC (Aa 2) (kC (Aa 0) kN)))))) (λ ρ s k=>ex5 ρ λ o0 o1 o2 o3 o4 r=>oC (λ p0=>oC (λ p3=>oC (λ p4=>K2 p0 p3 p4 s k d1.g) o4) o3) o0) λ ρ s k=>λ e=>xc5 e λ o0 o1 o2 o3 o4 r e=>cO e λ p0 e=>cO e λ p3 e=>cO e λ p4 e=>No (λ (F:It->KA)=>K4 p0 p3 p4 s d1.g λ it t=>F it [] Bv t) (by rfl) (funext λ it=>Wd p3 p4 (λ acc Z t=>k (.lst (rv acc)) t) 200 it none) e
def Lf (kn:Kpo) (F:It->Kpo) (it:It) (p2:PV) (o4:OP) (s:PS):Bool:=G7 it s (kn p2 o4 s) λ x it=>K2 p0 p3 x s (λ v40 s=>Qn p2 v40 s λ v38 s=>F it v38 (some x) s) g1
def Le (kn:Kpo) (n:Nat):It->Kpo:=@Nat.rec (λ Z=>It->Kpo) (λ Z Z Z Z=>false) (λ Z=>Lf p0 p3 g1 kn) n
def Ld (K:It->PS->Bool):Bool:=Ar p0 (.str 0x3a0001e0000e000073) s λ v44=>Bn v44 s λ t42 s=>K t42 s
def Lb:Np:=Ag (Br 2 (Cj (Aa 2) (Zw d1))) At
def Lc (kn:Kpo):Bool:=Ld p0 s λ it t=>Le p0 p3 g1 kn 200 it p2 o4 t
def Wh (n:Nat):It->Kpo:=λ it p2 o4 s=>Ej (gN 4).f (Lb d1).f n it (some p0::o1::some p2::some p3::o4::r) s kl kr
theorem Wg (n:Nat):Wh p0 p3 o1 kr r kl d1 n=Le p0 p3 d1.g (λ p2 o4 s=>kl (some p0::o1::some p2::some p3::o4::r) s) n:=Mj (Lf p0 p3 d1.g (λ p2 o4 s=>kl (some p0::o1::some p2::some p3::o4::r) s)) (by rfl) (λ n=>by rfl) (λ n=>rfl) n
def Zy:CS:=wkS (Gx (iK (Ak (Aa 0) (Ac 0x3a0001e0000e000073))) (gN 4) (Lb d1)) (λ ρ s kl kr=>ex5 ρ λ o0 o1 o2 o3 o4 r=>oC (λ p0=>oC (λ p2=>oC (λ p3=>Lc p0 p2 p3 o4 s d1.g (λ x2 x4 t=>kl (some p0::o1::some x2::some p3::x4::r) t)) o3) o2) o0) λ ρ s kl kr=>λ e=>xc5 e λ o0 o1 o2 o3 o4 r e=>cO e λ p0 e=>cO e λ p2 e=>cO e λ p3 e=>No (λ (F:It->Kpo)=>Ld p0 s λ it t=>F it p2 o4 t) (by rfl) (Wg p0 p3 o1 kr r kl d1 200) e
def Lk (kn:Fh) (F:It->Fh) (it:It) (p2:PV) (o3:OP) (o4:OP) (s:PS):Bool:=G7 it s (kn p2 o3 o4 s) λ x it=>Lc p0 p2 x o4 s g1 (λ x48 x49 s=>F it x48 (some x) x49 s)
def Lj (kn:Fh) (n:Nat):It->Fh:=@Nat.rec (λ Z=>It->Fh) (λ Z Z Z Z Z=>false) (λ Z=>Lk p0 g1 kn) n
def Li (K:It->PS->Bool):Bool:=Bn p1 s λ t51 s=>K t51 s
def Lg:Np:=Ag (Zy d1) At
def Lh (kn:Fh):Bool:=Li p1 s λ it t=>Lj p0 g1 kn 200 it p2 o3 o4 t
def Wj (n:Nat):It->Fh:=λ it p2 o3 o4 s=>Ej (gN 3).f (Lg d1).f n it (some p0::o1::some p2::o3::o4::r) s kl kr
theorem Wi (n:Nat):Wj p0 o1 kr r kl d1 n=Lj p0 d1.g (λ p2 o3 o4 s=>kl (some p0::o1::some p2::o3::o4::r) s) n:=Mj (Lk p0 d1.g (λ p2 o3 o4 s=>kl (some p0::o1::some p2::o3::o4::r) s)) (by rfl) (λ n=>by rfl) (λ n=>rfl) n
def Zz:CS:=wkS (Gx (iK (Aa 1)) (gN 3) (Lg d1)) (λ ρ s kl kr=>ex5 ρ λ o0 o1 o2 o3 o4 r=>oC (λ p0=>oC (λ p1=>oC (λ p2=>Lh p0 p1 p2 o3 o4 s d1.g (λ x2 x3 x4 t=>kl (some p0::some p1::some x2::x3::x4::r) t)) o2) o1) o0) λ ρ s kl kr=>λ e=>xc5 e λ o0 o1 o2 o3 o4 r e=>cO e λ p0 e=>cO e λ p1 e=>cO e λ p2 e=>No (λ (F:It->Fh)=>Li p1 s λ it t=>F it p2 o3 o4 t) (by rfl) (Wi p0 (some p1) kr r kl d1 200) e
def S2:Bh 894 2:=Ce 2 4 ["world","lot","told","rule","home","places"] (Ag (Br 2 (Cf kN)) (Ag (Zz d1) (Ag (Zx d2 d3) (Ag (Cn (Ai d4.c (kC (Aa 0) kN))) At)))) rfl (λ Z=>Nr λ Z Z=>rfl) (by rfl)
def S3 (p0:PV) (p1:PV) (s:PS) (k:PV->PS->Bool):Bool:=Am (.list []) s λ i53 s=>Lh p0 p1 (.obj i53) none none s g1 (λ x55 x56 x57 s=>K7 p0 x55 x56 x57 none s g2 g3 (λ x59 x60 x61 s=>g4 p0 s λ v63 s=>k .none s))
theorem Aef:OF 894 2 (S2 d1 d2 d3 d4).n (li2 (S3 d1.g d2.g d3.g d4.g)):=Qr (S2 d1 d2 d3 d4) λ p0 p1 s k=>by rfl
end
def Gs:T2:=S3 (Ds 12) L6 (Cs 12) Ed
def Aaa:B1 894:=⟨Gs,_,Aef (Acr 12) Uh (Ui 12) Ox⟩
section
variable (g1:T2) (d1:B1 864) (g2:T1) (d2:Cg 717) (g3:T1) (d3:Cg 745) (g4:T1) (d4:Cg 773) (g5:T1) (d5:Cg 808) (g6:T1) (d6:Cg 843) (g7:T2) (d7:B1 710) (g8:T2) (d8:B1 801) (g9:T2) (d9:B1 836) (g10:T2) (d10:B1 864) (g11:T2) (d11:B1 864)
def S4:Bh 901 1:=Ce 1 4 ["deck","way","known","one","other"] (Ag (Br 1 (Ai d1.c (kC (Aa 0) (kC (Al 5) kN)))) (Ag (Br 2 (Av true 0x74000330001b4000ec00073 (Cy 727 d2.c (Cy 755 d3.c (Cy 783 d4.c (Cy 818 d5.c (Cy 853 d6.c C9))))) (Ak (Fk (kC (Bq 727 d7.c (kC (Al 3) kN)) (kC (Av7 755) (kC (Av7 783) (kC (Bq 818 d8.c (kC (Al 2) kN)) (kC (Bq 853 d9.c (kC (Al 9) kN)) kN)))))) (Aa 1)) kN)) (Ag (Ka 3 4 (Ad (kC (Ak (Aa 2) (Ai d10.c (kC (Aa 0) (kC (Cr (kC (Aa 2) kN)) kN)))) (kC (Ak (Aa 2) (Ai d11.c (kC (Aa 0) (kC (Cr (kC (Aa 2) kN)) kN)))) kN)))) (Ag (Ay (kIf (tEq (Af 0x330001b8000c40006f (Aa 3)) (Af 0x330001b8000c40006f (Aa 4))) (Fk (kC (Aa 3) kN)) (Fk (kC (Aa 3) (kC (Aa 4) kN))))) At)))) rfl (λ Z=>Ru λ Z=>rfl) (by rfl)
def S5 (p0:PV) (s:PS) (k:PV->PS->Bool):Bool:=g1 p0 (.int 5) s λ v1 s=>Am (.att []) s λ z7 s=>g7 (.inst 727 z7) (PV.int 3) s λ v9 s=>Nn (Am (.att []) s λ z11 s=>Am (.att []) s λ z13 s=>Am (.att []) s λ z15 s=>g8 (.inst 818 z15) (PV.int 2) s λ v17 s=>Nn (Am (.att []) s λ z19 s=>g9 (.inst 853 z19) (PV.int 9) s λ v21 s=>Nn (Ar (.lst [(PV.inst 727 z7),(PV.inst 755 z11),(PV.inst 783 z13),(PV.inst 818 z15),(PV.inst 853 z19)]) v1 s λ v6=>Apr true 0x74000330001b4000ec00073 (mtC 727 (li1 g2) (mtC 755 (li1 g3) (mtC 783 (li1 g4) (mtC 818 (li1 g5) (mtC 853 (li1 g6) mt0))))) v6 s λ F5=>F5 [v6] s λ v3 s=>Hs [v3] s λ v26 s=>g10 p0 v26 s λ v24 s=>Ar v3 v24 s λ v23=>Hs [v3] s λ v31 s=>g11 p0 v31 s λ v29 s=>Ar v3 v29 s λ v28=>(λ (j33:PV->PS->Bool)=>Au 0x330001b8000c40006f (λ v38=>Au 0x330001b8000c40006f (λ v39=>pEq v38 v39 s λ b36 s=>bC (j33 (.lst [v23,v28]) s) (j33 (.lst [v23]) s) b36) v28 s) v23 s) (λ v34 s=>k v34 s)) v21) v17) v9
theorem Aeg:OF 901 1 (S4 d1 d2 d3 d4 d5 d6 d7 d8 d9 d10 d11).n (li1 (S5 d1.g d2.g d3.g d4.g d5.g d6.g d7.g d8.g d9.g d10.g d11.g)):=U7 (S4 d1 d2 d3 d4 d5 d6 d7 d8 d9 d10 d11) λ p0 s k=>by rfl
end
def O1 (gw go gt:T2):T1:=S5 gw Qw L4 Oy Qx Hc Un Uo Iu go gt
def Aab:Cg 901:=Avl (Aeg Axb Acn W8 Z6 Acp S8 Aew Aex Vo Axb Axb) (show _=O1 (G_pG G_pV) (G_pG G_pV) (G_pG G_pV) by rfl)
section
variable (g1:T1) (d1:Cg 901) (g2:T2) (d2:B1 293) (g3:T2) (d3:B1 864) (g4:T2) (d4:B1 864) (g5:T1) (d5:Cg 408) (g6:T2) (d6:B1 305) (g7:T1) (d7:Cg 415) (g8:T3) (d8:Lm 874) (g9:T1) (d9:Cg 884) (g10:T1) (d10:Cg 675) (g11:T4) (d11:CD4 639) (g12:T2) (d12:B1 894) (g13:T2) (d13:B1 312) (g14:T3) (d14:Lm 451)
def Ak6 (kn:Ko) (F:It->Ko) (it:It) (o13:OP) (s:PS):Bool:=G7 it s (kn o13 s) λ x it=>g12 p8 p2 s λ v3 s=>F it (some x) s
def Ak5 (kn:Ko) (n:Nat):It->Ko:=@Nat.rec (λ Z=>It->Ko) (λ Z Z Z=>false) (λ Z=>Ak6 p2 p8 g12 kn) n
def Ak4 (K:It->PS->Bool):Bool:=Ap8 [p4] s λ v7 s=>Bn v7 s λ t5 s=>K t5 s
def Ak2:Np:=Ag (Cn (Ai d12.c (kC (Aa 8) (kC (Aa 2) kN)))) At
def Ak3 (kn:Ko):Bool:=Ak4 p4 s λ it t=>Ak5 p2 p8 g12 kn 200 it o13 t
def As0 (n:Nat):It->Ko:=λ it o13 s=>Ej (gN 13).f (Ak2 d12).f n it (o0::o1::some p2::o3::o4::o5::o6::o7::some p8::o9::o10::o11::o12::o13::r) s kl kr
theorem Asz (n:Nat):As0 p2 p8 o0 o1 o3 o4 o5 o6 o7 o9 o10 o11 o12 kr r kl d12 n=Ak5 p2 p8 d12.g (λ o13 s=>kl (o0::o1::some p2::o3::o4::o5::o6::o7::some p8::o9::o10::o11::o12::o13::r) s) n:=Mj (Ak6 p2 p8 d12.g (λ o13 s=>kl (o0::o1::some p2::o3::o4::o5::o6::o7::some p8::o9::o10::o11::o12::o13::r) s)) (by rfl) (λ n=>by rfl) (λ n=>rfl) n
def Ayc:CS:=wkS (Gx (iK (Ah6 (kC (Aa 4) kN))) (gN 13) (Ak2 d12)) (λ ρ s kl kr=>A1l ρ λ o0 o1 o2 o3 o4 o5 o6 o7 o8 o9 o10 o11 o12 o13 r=>oC (λ p2=>oC (λ p4=>oC (λ p8=>Ak3 p2 p4 p8 o13 s d12.g (λ x13 t=>kl (o0::o1::some p2::o3::some p4::o5::o6::o7::some p8::o9::o10::o11::o12::x13::r) t)) o8) o4) o2) λ ρ s kl kr=>λ e=>A6e e λ o0 o1 o2 o3 o4 o5 o6 o7 o8 o9 o10 o11 o12 o13 r e=>cO e λ p2 e=>cO e λ p4 e=>cO e λ p8 e=>No (λ (F:It->Ko)=>Ak4 p4 s λ it t=>F it o13 t) (by rfl) (Asz p2 p8 o0 o1 o3 (some p4) o5 o6 o7 o9 o10 o11 o12 kr r kl d12 200) e
set_option maxHeartbeats 1000000 in
def A1z:Bh 906 1:=Ce 1 13 ["script","deck","lot","found","rounds","spot","overlap","heap","world","near","far","one","other","lap"] (Ag A1u (Ag (Br 2 (Ai d1.c (kC (Aa 1) kN))) (Ag (Br 3 (Ai d2.c (kC (Ak (Aa 2) (Al 0)) (kC (Ak (Aa 2) (A5d (Al 1))) kN)))) (Ag (Ka 4 5 (Ad (kC (Ai d3.c (kC (Aa 1) (kC (Al 3) kN))) (kC (Ai d4.c (kC (Aa 1) (kC (A02 (kC (Al 1) (kC (Cr (kC (Aa 3) kN)) kN))) kN))) kN)))) (Ag (Br 6 (kIf (tNe (Aa 3) (Fk kN)) (Ak (Aa 3) (Aa 5)) (Ad (kC (Ad kN) (kC (Af 0x3a80019c000cc0006d (Ak (Aa 2) (Al 0))) (kC (Af 0x3a80019c000cc0006d (Ak (Aa 2) (Al 0))) (kC (Af 0x75000348001a0000d400073 (Ak (Aa 2) (Al 0))) kN))))))) (Ag (Ka 7 8 (Ad (kC (Bq 520 d5.c kN) (kC (Aph (kVc 0x7400033000194000e00006f (Cf kN) (kVc 0x74000330001b8000e000069 (Cf kN) (kVc 0x6f0003c0001c0000de0006c C7 kV0)))) kN)))) (Ag (Vx (Lq (Cm (gN 9) (Cm (gN 10) Lp))) (Ai d6.c (kC (Aa 7) (kC (Aa 6) kN)))) (Ag (Br 4 (A4w (kC (Aa 4) (kC (Cj (Al 1) (A01 (kC (cLt (Av false 0x330001ec000d400074 (Cy 520 d7.c C9) (Aa 7) kN) (Al 7)) kN))) kN)))) (Ag (Ka 11 12 (Ad (kC (Ai d8.c (kC (Aa 8) (kC (Ak (Aa 6) (Al 2)) (kC C7 kN)))) (kC (Ai d8.c (kC (Aa 8) (kC (Ak (Aa 6) (Al 3)) (kC C7 kN)))) kN)))) (Ag (Cn (Ai d9.c (kC (Aa 8) kN))) (A54 4 (Ag (Cn (Av false 488183410196595 (Cy 678 d10.c C9) (Bq 678 d11.c (kC (Aa 7) (kC (Aa 2) (kC (Aph (kVc 0xe800065000378001d8000e000073 (Aa 4) kV0)) kN)))) kN)) (Ag (Ayc d12) (Ag (Bz (tNe (Ai d13.c (kC (Aa 7) (kC (Aa 6) kN))) (cEq (Ak (Ak (Aa 8) (Ac 0x74000330001b8000e000069)) (Aa 11)) (Ak (Ak (Aa 8) (Ac 0x74000330001b8000e000069)) (Aa 12)))) (Ag (Ay (Dm false)) At) At) (Ag (Ay (Asu (cEq (Av false 0x330001b0000d40006d00030000198000e600062 (Cy 520 d14.c C9) (Aa 7) (kC (Aa 9) (kC (Aa 10) kN))) (Ai d13.c (kC (Aa 7) (kC (Aa 6) kN)))) (cEq (Ai d6.c (kC (Aa 7) (kC (Aa 6) kN))) (Ad (kC (Aa 9) (kC (Aa 10) kN)))))) At))))))))))))))) rfl (λ Z=>Ru λ Z=>rfl) (by rfl)
def Ayb (g13:T2) (g14:T3) (g6:T2) (k:PV->PS->Bool) (s:PS) (v29:PV) (x56:PV) (x58:PV) (z40:Nat):Bool:=(λ (j104:PV->PS->Bool)=>qM 520 (g14 (PV.inst 520 z40) x56 x58 s λ v110 s=>g13 (PV.inst 520 z40) v29 s λ v112 s=>pEq v110 v112 s λ b108 s=>Nm (λ b107=>bC (j104 (.bool false) s) (g6 (PV.inst 520 z40) v29 s λ v116 s=>pEq v116 (.tup [x56,x58]) s λ b114 s=>j104 (.bool b114) s) b107) (PV.bool b108)) (PV.inst 520 z40) s) (λ v105 s=>k v105 s)
def Aya (p0:PV) (s:PS) (k:PV->PS->Bool):Bool:=Ayd (λ l9=>bC false (bC false (Am (.deck 0) s λ i10 s=>g1 (.obj i10) s λ v12 s=>Ar v12 (.int 0) s λ v16=>Ax1 (eC (.int 1)) [] s λ v18 s=>Ar v12 v18 s λ v17=>g2 v16 v17 s λ v14 s=>g3 (.obj i10) (PV.int 3) s λ v20 s=>Hs [v14] s λ v26 s=>Ayv [(.int 1),v26] s λ v24 s=>g4 (.obj i10) v24 s λ v22 s=>(λ (j28:PV->PS->Bool)=>pNe v14 (.lst []) s λ b31 s=>bC (Ar v12 (.int 0) s λ v34=>Au 0x3a80019c000cc0006d (λ v33=>Ar v12 (.int 0) s λ v36=>Au 0x3a80019c000cc0006d (λ v35=>Ar v12 (.int 0) s λ v38=>Au 0x75000348001a0000d400073 (λ v37=>j28 (.tup [(.tup []),v33,v35,v37]) s) v38 s) v36 s) v34 s) (Ar v14 v22 s λ v39=>j28 v39 s) b31) (λ v29 s=>Am (.att []) s λ z40 s=>g5 (.inst 520 z40) s λ v42 s=>Nn (Am (.dict [] true) s λ i44 s=>Am (.list []) s λ i47 s=>Am (.list []) s λ i49 s=>Am (.dict [] true) s λ i51 s=>Aif i44 [0x7400033000194000e00006f,0x74000330001b8000e000069,0x6f0003c0001c0000de0006c] [(.obj i47),(.obj i49),(.obj i51)] s λ s=>g6 (PV.inst 520 z40) v29 s λ v53 s=>Ht v53 s λ l55=>bC false (lC false (λ x56 l57=>lC false (λ x58 l59=>lC (qM 520 (g7 (PV.inst 520 z40) s λ v68 s=>pLt v68 (.int 7) s λ b66 s=>A2h [(.bool b66)] s λ v64 s=>Qn (.int 1) v64 s λ v62 s=>A2j [v20,v62] s λ v60 s=>Ar v29 (.int 2) s λ v72=>Am (.dict [] true) s λ i73 s=>g8 (.obj i44) v72 (.obj i73) s λ v70 s=>Ar v29 (.int 3) s λ v77=>Am (.dict [] true) s λ i78 s=>g8 (.obj i44) v77 (.obj i78) s λ v75 s=>g9 (.obj i44) s λ v80 s=>A0c (λ v82=>Am (.dict [] true) s λ i89 s=>Aif i89 [0xe800065000378001d8000e000073] [v82] s λ s=>Am (.att []) s λ z85 s=>g11 (.inst 678 z85) (PV.inst 520 z40) v12 (.obj i89) s λ v87 s=>Nn (qM 678 (g10 (PV.inst 678 z85) s λ v83 s=>Ak3 v12 v82 (.obj i44) none s g12 (λ x92 s=>g13 (PV.inst 520 z40) v29 s λ v96 s=>Ar (.obj i44) (PV.str 0x74000330001b8000e000069) s λ v101=>Ar v101 v70 s λ v100=>Ar (.obj i44) (PV.str 0x74000330001b8000e000069) s λ v103=>Ar v103 v75 s λ v102=>pEq v100 v102 s λ b98 s=>pNe v96 (.bool b98) s λ b94 s=>bC (Ayb g13 g14 g6 k s v29 x56 x58 z40) (k (.bool false) s) b94)) (PV.inst 678 z85) s) v87) v60) (PV.inst 520 z40) s) F2 l59) l57) l55) (Nat.beq (len l55) 2)) v42)) (Nat.ble (len l9) 1000)) (Fd 2 l9)) p0
theorem A5g:OF 906 1 (A1z d1 d2 d3 d4 d5 d6 d7 d8 d9 d10 d11 d12 d13 d14).n (li1 (Aya d1.g d2.g d3.g d4.g d5.g d6.g d7.g d8.g d9.g d10.g d11.g d12.g d13.g d14.g)):=U7 (A1z d1 d2 d3 d4 d5 d6 d7 d8 d9 d10 d11 d12 d13 d14) λ p0 s k=>by rfl
end
def Aj5 (gw go gt:T2):T1:=Aya (O1 gw go gt) P8 Axf Axe L1 Gh L3 (Cs 12) Ed Hx Gr Gs Hy De
def Ave:Cg 906:=Avl (A5g Aab Ahu A4q A4p Aev Ug Lx (Ui 12) Ox Aco Z7 Aaa Acq Iq) (show _=Aj5 (G_pG G_pV) (G_pG G_pV) (G_pG G_pV) by rfl)
end
section
def okP (p:PV) (_:PS):Bool:=Nm id p
theorem X1:∀ l:List Int,Fd 2 (l.map PV.int)=true
 | []=>rfl
 | i::l=>by
  show bC false (Fd 2 (l.map PV.int)) (Nat.beq (PV.int i).kd 2)=true
  rw [X1 l];rfl
theorem Atr {J:Aj} {h:Heap} {vs:List Value} {ns:List Int} (x:IntsAre vs ns):RepL J h (ns.map .int) vs:=by
 induction x with
 | nil=>exact rfl
 | cons n t _ ih=>exact ⟨_,_,rfl,⟨t,rfl⟩,ih⟩
theorem A7p {prog:Program} {w:World} {s₁:Shared} {mg mb:Str->Option Value} {K:Frag} {p:Program} {loose:List Str} {fa a:Addr} {vs:List Value} {ns:List Int}
  (L:Bh 906 1) (hL6:L.n≤600) (truth:∀ l:List Int,l.length≤63->L.F [.lst (l.map .int)] ⟨0,.e⟩ okP=true)
  (kok:Xt K) (KX:K.In s₁.heap) (T:TopRead p loose mg mb s₁.heap) (hmg:mg "law"=some (.ref fa)) (hl:nsIn K mainGlobals "law"=some (some (.ref 906)))
  (hL:s₁.heap.IsList a vs.toArray) (hI:IntsAre vs ns) (hn:ns.length≤63) (Q:Value->Shared->Prop) (E:Value->Shared->Prop)
  (HQ:∀ s',(∀ b o,s₁.heap.get? b=some o->s'.heap.get? b=some o)->s'.os=s₁.os->s'.gens=s₁.gens->Q (.bool true) s'):
  wpAny (model prog w) callerA (call (.ref fa) [.ref a]) Q E s₁:=by
 have hfa:fa=906:=Value.ref.inj (Option.some.inj (hmg.symm.trans (mg_of KX T.g hl)))
 subst hfa
 let B:Aq:={prog:=prog,w:=w,K:=K,h₀:=s₁.heap,mg:=mg,mb:=mb,p:=p,loose:=loose,X:=KX,T:=T}
 have st:St B ⟨[],[]⟩ ⟨0,.e⟩ s₁.heap:=⟨λ Z Z e=>e,λ a q=>q.elim (λ q=>nomatch q) (λ q=>nomatch q),λ a q=>q.elim (λ q=>nomatch q) (λ q=>nomatch q),List.nodup_nil,rfl,λ i a e=>(nomatch e),λ a q=>nomatch q⟩
 have rm:Cc callerA L.n:=⟨Nat.lt_of_le_of_lt (Nat.add_le_add_right (Nat.add_le_add_left hL6 _) _) (by decide),Nat.lt_of_le_of_lt (Nat.add_le_add_right (Nat.add_le_add_left (Nat.mul_le_mul_left _ hL6) _) _) (by decide +kernel),rfl⟩
 have rv:Ae ⟨[],[]⟩ s₁.heap (.lst (ns.map .int)) (.ref a):=⟨a,vs,rfl,λ q=>q.elim (λ q=>nomatch q) (λ q=>nomatch q),hL,Atr hI⟩
 refine (L.ok B kok).sf callerA s₁ _ _ [.lst (ns.map .int)] [.ref a] rm st ⟨_,_,rfl,rv,rfl⟩ rfl okP Q E (truth ns hn) ?_
 intro v s' J' p' σ' e x r
 have hp:p'=.bool true:=by
  cases p' with
  | bool b=>exact congrArg PV.bool e
  | _=>exact ff e
 subst hp
 cases (show v=.bool true from r)
 exact HQ s' (λ b o e=>x.g.keep b o e (λ q=>nomatch q) λ q=>q) x.m.os x.m.gens
end
section
set_option maxHeartbeats 0
local macro_rules |`(tactic| rfl)=>`(tactic| kernel_rfl)
def Lw (gw go gt:T2):Bool:=Aj5 gw go gt (.lst []) ⟨0,.e⟩ okP
theorem tA (gw go gt:T2) (l:List PV):Aj5 gw go gt (.lst l) ⟨0,.e⟩ okP=bC false (bC false (Lw gw go gt) (Nat.ble (len l) 1000)) (Fd 2 l):=by rfl
theorem tB (gs:Nat->T2) (go gt:T2):Lw (G_pG gs) go gt=Gw 5 λ w=>Lw (gs w) go gt:=by rfl
def rB (n:Nat):Nat:=@Nat.rec (λ Z=>Nat->Nat) (λ Z=>0) (λ Z ih n=>@Nat.rec (λ Z=>Nat) 0 (λ m Z=>Nat.succ (Nat.add (Nat.mod (Nat.succ m) 256) (Nat.mul kB (ih (Nat.div (Nat.succ m) 256))))) n) 20 n
def r1 (n:Nat) (a:PV):PV:=.tup [.str (rB n),a]
def r2 (n:Nat) (a b:PV):PV:=.tup [.str (rB n),a,b]
def B2:PV:=.tup [.str 205520960]
def Hw:PV:=.tup [.str 207618112]
def rVc:PV:=.tup [.str 209715264]
def Bf (n:Nat) (l r:PV):PO:=.att [(0x330001b8000c40006f,.str (rB n)),(0x3a80019c000cc0006d,l),(0x75000348001a0000d400073,r),(0x7400032800198000cc0006f,.tup [])]
def Agw (n m:Nat) (u:PV):List PO:=[Bf (n+m*0x6e7275742d) (r2 n B2 Hw) (r2 n Hw B2),Bf (n+m*0x7475702d) (r2 n (r2 n B2 Hw) rVc) (r2 n B2 (r2 n Hw rVc)),Bf (n+m*0x74696e752d) (r2 n B2 u) B2]
def Agl:PV:=.tup [.str (rB 0x30)]
def A2e:PV:=.tup [.str (rB 0x31)]
def Agh:PV->PV->PV:=r2 0x646461
def Agi:PV->PV:=r1 0x67656e
def Sr:PV->PV->PV:=r2 0x6c756d
def A2f:PV:=.tup [.str (rB 0x33)]
def Ad1:PV:=.tup [.str (rB 0x65757274)]
def Wv:PV:=.tup [.str (rB 0x65736c6166)]
def Va:PV->PV->PV:=r2 0x646e61
def Agk:PV->PV->PV:=r2 0x726f
def Fg:PV->PV:=r1 0x746f6e
def A2d:PV->PV->PV:=r2 0x706d69
def Mp:PV->PV->PV:=r2 0x707061
def Agj:PV:=.tup [.str (rB 0x6c696e)]
def Adz:PV->PV->PV:=r2 0x736e6f63
def Vb:PV->PV:=r1 0x766572
def Ap3:PV:=.tup [.str (rB 0x656e6f6e)]
def Awi:PV:=.tup [.str (rB 0x6c6c61)]
def Ij:PV->PV->PV:=r2 0x6e6f696e75
def Mq:PV->PV->PV:=r2 0x7465656d
def Ap2:PV->PV->PV:=r2 0x7373656c
def Yv:PV:=.tup [.str (rB 0x6f72657a)]
def Yu:PV->PV->PV:=r2 0x73756c70
def Ad0:PV->PV:=r1 0x63637573
def Ii:PV->PV->PV:=r2 0x73656d6974
def rR0:List PO:=Agw 0x646461 0x1000000 Agl++(Agw 0x6c756d 0x1000000 A2e++([Bf 0x6464612d67656e (Agh B2 (Agi B2)) Agl,Bf 0x67656e2d67656e (Agi (Agi B2)) B2,Bf 0x6c756d2d67656e (Sr (Agi B2) Hw) (Agi (Sr B2 Hw)),Bf 0x6f72657a2d6c756d (Sr B2 Agl) Agl,Bf 0x646165727073 (Sr B2 (Agh Hw rVc)) (Agh (Sr B2 Hw) (Sr B2 rVc)),Bf 0x726568746167 (Agh (Sr B2 Hw) (Sr B2 rVc)) (Sr B2 (Agh Hw rVc)),Bf 0x646e756f72 A2f Agl]))
def rR1:List PO:=Agw 0x646e61 0x1000000 Ad1++(Agw 0x726f 0x10000 Wv++([Bf 0x65636977742d646e61 (Va B2 B2) B2,Bf 0x65636977742d726f (Agk B2 B2) B2,Bf 0x65736c61662d646e61 (Va B2 Wv) Wv,Bf 0x657572742d726f (Agk B2 Ad1) Ad1,Bf 0x746f6e2d646e61 (Va B2 (Fg B2)) Wv,Bf 0x746f6e2d726f (Agk B2 (Fg B2)) Ad1,Bf 0x746f6e2d746f6e (Fg (Fg B2)) B2,Bf 0x646e612d746f6e (Fg (Va B2 Hw)) (Agk (Fg B2) (Fg Hw)),Bf 0x726f2d746f6e (Fg (Agk B2 Hw)) (Va (Fg B2) (Fg Hw)),Bf 0x646165727073 (Va B2 (Agk Hw rVc)) (Agk (Va B2 Hw) (Va B2 rVc)),Bf 0x706d69 (A2d B2 Hw) (Agk (Fg B2) Hw)]))
def rR2:List PO:=[Bf 0x6c696e2d707061 (Mp Agj B2) B2,Bf 0x736e6f632d707061 (Mp (Adz B2 Hw) rVc) (Adz B2 (Mp Hw rVc)),Bf 0x646e652d707061 (Mp B2 Agj) B2,Bf 0x7475702d707061 (Mp (Mp B2 Hw) rVc) (Mp B2 (Mp Hw rVc)),Bf 0x6c696e2d766572 (Vb Agj) Agj,Bf 0x736e6f632d766572 (Vb (Adz B2 Hw)) (Mp (Vb Hw) (Adz B2 Agj)),Bf 0x7070612d766572 (Vb (Mp B2 Hw)) (Mp (Vb Hw) (Vb B2)),Bf 0x7665722d766572 (Vb (Vb B2)) B2]
def rR3:List PO:=Agw 0x6e6f696e75 0x10000000000 Ap3++(Agw 0x7465656d 0x100000000 Awi++([Bf 0x65636977742d6e6f696e75 (Ij B2 B2) B2,Bf 0x65636977742d7465656d (Mq B2 B2) B2,Bf 0x7465656d2d6e6f696e75 (Ij B2 (Mq B2 Hw)) B2,Bf 0x6e6f696e752d7465656d (Mq B2 (Ij B2 Hw)) B2,Bf 0x746f6e2d6e6f696e75 (Ij B2 (Fg B2)) Awi,Bf 0x746f6e2d7465656d (Mq B2 (Fg B2)) Ap3,Bf 0x646165727073 (Mq B2 (Ij Hw rVc)) (Ij (Mq B2 Hw) (Mq B2 rVc)),Bf 0x7373656c (Ap2 B2 Hw) (Mq B2 (Fg Hw)),Bf 0x7373656c2d746f6e (Fg (Ap2 B2 Hw)) (Ij (Fg B2) Hw)]))
def rR4:List PO:=Agw 0x73756c70 0x100000000 Yv++(Agw 0x73656d6974 0x10000000000 Yv++([Bf 0x636375732d73756c70 (Yu B2 (Ad0 Hw)) (Ad0 (Yu B2 Hw)),Bf 0x6f72657a2d73656d6974 (Ii B2 Yv) Yv,Bf 0x656e6f2d73656d6974 (Ii B2 (Ad0 Yv)) B2,Bf 0x636375732d73656d6974 (Ii B2 (Ad0 Hw)) (Yu (Ii B2 Hw) B2),Bf 0x646165727073 (Ii B2 (Yu Hw rVc)) (Yu (Ii B2 Hw) (Ii B2 rVc))]))
def rK (R:List PO):Nat->List PV:=@List.rec PO (λ Z=>Nat->List PV) (λ Z=>[]) (λ Z Z ih i=>.inst 585 i::ih (Nat.succ i)) R
def rK5 (R:List PO):List PV:=rK (R.take 5) 6++rK (R.drop 6) 12
def rC (R:List PO) (i:Nat):PO:=@Option.rec PO (λ Z=>PO) .hid (λ o=>o) (Aiy R i)
def rQ (R:List PO) (i:Nat):Q8 PO:=⟨rC R i,rC R (i+1),rC R (i+2),rC R (i+3),rC R (i+4),rC R (i+5),rC R (i+6),rC R (i+7)⟩
def rS (R:List PO):PS:=⟨6+len R,⟨⟨⟨⟨.deck 1,.att [(111,.int 3)],.att [],.att [],.att [(0x66000368001c0000d200078,.int 3)],.att [(0x3a8001d0000e00006e,.int 9)],rC R 0,rC R 1⟩,rQ R 2,rQ R 10,z8 .hid,z8 .hid,z8 .hid,z8 .hid,z8 .hid⟩,z8 (z8 .hid),z8 (z8 .hid),z8 (z8 .hid),z8 (z8 .hid),z8 (z8 .hid),z8 (z8 .hid),z8 (z8 .hid)⟩,.e⟩⟩
def rE (K:List PV) (R:List PO) (go gt:T2) (k:PV->PS->Bool):Bool:=go (.obj 0) (.int (Int.ofNat (len K))) (rS R) λ v s=>Ar (.lst K) v s λ a=>Hs [.lst K] s λ n s=>gt (.obj 0) n s λ v s=>Ar (.lst K) v s λ b=>Au 0x330001b8000c40006f (λ x=>Au 0x330001b8000c40006f (λ y=>pEq x y s λ c s=>bC (k (.lst [a,b]) s) (k (.lst [a]) s) c) b s) a s
def E (K:List PV) (R:List PO) (go gt:T2):Bool:=Aya (λ Z Z k=>rE K R go gt k) P8 Axf Axe L1 Gh L3 (Cs 12) Ed Hx Gr Gs Hy De (.lst []) ⟨0,.e⟩ okP
def e0:T2->T2->Bool:=E (rK rR0 6) rR0
def e1:T2->T2->Bool:=E (rK rR1 6) rR1
def e2:T2->T2->Bool:=E (rK rR2 6) rR2
def e3:T2->T2->Bool:=E (rK rR3 6) rR3
def e4:T2->T2->Bool:=E (rK5 rR4) rR4
theorem aS {n:Nat} {f:Nat->Bool} (h:Gw n f=true) (h':f n=true):Gw (n+1) f=true:=(Vw h').trans h
theorem tR0 (go gt:T2):Lw (G_pV 0) go gt=e0 go gt:=by rfl
theorem tC0 (gs:Nat->T2) (gt:T2):e0 (G_pG gs) gt=Gw 13 λ o=>e0 (gs o) gt:=by rfl
theorem tR1 (go gt:T2):Lw (G_pV 1) go gt=e1 go gt:=by rfl
theorem tC1 (gs:Nat->T2) (gt:T2):e1 (G_pG gs) gt=Gw 17 λ o=>e1 (gs o) gt:=by rfl
theorem tR2 (go gt:T2):Lw (G_pV 2) go gt=e2 go gt:=by rfl
theorem tC2 (gs:Nat->T2) (gt:T2):e2 (G_pG gs) gt=Gw 8 λ o=>e2 (gs o) gt:=by rfl
theorem tR3 (go gt:T2):Lw (G_pV 3) go gt=e3 go gt:=by rfl
theorem tC3 (gs:Nat->T2) (gt:T2):e3 (G_pG gs) gt=Gw 15 λ o=>e3 (gs o) gt:=by rfl
theorem tR4 (go gt:T2):Lw (G_pV 4) go gt=e4 go gt:=by rfl
theorem tC4 (gs:Nat->T2) (gt:T2):e4 (G_pG gs) gt=Gw 10 λ o=>e4 (gs o) gt:=by rfl
abbrev tP (e:T2->T2->Bool) (q p:Nat):Prop:=e (G_pV q) (G_pV p)=true
abbrev tQ (e:T2->T2->Bool) (n q:Nat):Prop:=(λ gs:Nat->T2=>e (G_pV q) (G_pG gs))=λ gs=>Gw n λ p=>e (G_pV q) (gs p)
def tA' (e:T2->T2->Bool) (q n:Nat):Prop:=Gw n (λ p=>e (G_pV q) (G_pV p))=true
theorem b0 {e:T2->T2->Bool} {q:Nat}:tA' e q 0:=rfl
theorem bS {e:T2->T2->Bool} {q n:Nat} (h:tA' e q n) (h':tP e q n):tA' e q (Nat.succ n):=aS h h'
theorem bU {e:T2->T2->Bool} {n q:Nat} (h:tQ e n q) (h':tA' e q n):e (G_pV q) (G_pG G_pV)=true:=(congrFun h G_pV).trans h'
theorem a0 {f:Nat->Bool}:Gw 0 f=true:=rfl
theorem tG {a b c:Bool} (h:a=b) (h':b=c) (h2:c=true):a=true:=h.trans (h'.trans h2)
local macro_rules (kind:=Lean.Parser.Command.universe)|x=>do
 let _<-zqC (x[1][0].getId==`tx) x
 let n (k:Nat):Lean.Syntax:=Lean.Syntax.mkNumLit (toString k)
 let i (s:String) (k:Nat):Lean.Syntax:=Lean.mkIdent (.mkSimple (s++toString k))
 let a (l:List Lean.Syntax):Lean.Syntax:=zqp "0 1 ^app/2" [l.head!,zqN l.tail!]
 let th (m t v:Lean.Syntax):List Lean.Syntax:=[zqp "/0 /0 /0 /0 /0 /0 /0 %Lean.Parser.Command.declModifiers/7 theorem 0 /0 %Lean.Parser.Command.declId/2 /0 : 1 ^typeSpec/2 %Lean.Parser.Command.declSig/2 := 2 /0 /0 %Lean.Parser.Termination.suffix/2 /0 %Lean.Parser.Command.declValSimple/4 %Lean.Parser.Command.theorem/4 %Lean.Parser.Command.declaration/2" [m,t,v]]
 let r:=zqp ("by "++"kernel_rfl %tacticKernel_rfl/1 ^byTactic/2") []
 let t (s:String):Lean.Syntax:=zqp ("#"++s) []
 return zqN (zqM (λ y w=>
  let N:=y.getAtomVal.toNat!
  let e:=i "e" w
  (zqL (λ q=>
   let c:=(w*17+q)*18
   th (i "z" c) (zqp "#Eq 0 #true /2 ^app/2" [a [e,a [t "G_pV",n q],a [t "G_pG",t "G_pV"]]]) (a [t "bU",i "eq_" (c+N),(zqL (λ p=>[i "eq_" (c+p)]) N).foldr (λ h g=>a [t "bS",g,h]) (t "b0")])
    ++ th (i "eq_" (c+N)) (a [t "tQ",e,n N,n q]) r++zqL (λ p=>th (i "eq_" (c+p)) (a [t "tP",e,n q,n p]) r) N) N).reverse
  ++ th (i "tF" w) (zqp "#Eq 0 #true /2 ^app/2" [a [t "Lw",a [t "G_pV",n w],a [t "G_pG",t "G_pV"],a [t "G_pG",t "G_pV"]]]) (a [t "tG",a [i "tR" w,zqp "_ ^hole/1" [],zqp "_ ^hole/1" []],a [i "tC" w,t "G_pV",zqp "_ ^hole/1" []],(zqL (λ q=>[i "z" ((w*17+q)*18)]) N).foldr (λ h g=>a [t "aS",g,h]) (t "a0")])) 0 ([13,17,8,15,10].map λ k=>.atom .none (toString k)))
universe tx
theorem tF:Lw (G_pG G_pV) (G_pG G_pV) (G_pG G_pV)=true:=(tB G_pV _ _).trans (aS (aS (aS (aS (aS rfl tF0) tF1) tF2) tF3) tF4)
theorem truth (l:List Int) (h:l.length≤63):Ave.c.F [.lst (l.map .int)] ⟨0,.e⟩ okP=true:=by
 have q:Ave.c.F [.lst (l.map .int)] ⟨0,.e⟩ okP=Aj5 (G_pG G_pV) (G_pG G_pV) (G_pG G_pV) (.lst (l.map .int)) ⟨0,.e⟩ okP:=by rfl
 refine q.trans ((tA _ _ _ _).trans ?_)
 have h1:Fd 2 (l.map PV.int)=true:=X1 l
 have h2:Nat.ble (len (l.map PV.int)) 1000=true:=Nat.ble_eq_true_of_le ((By (l.map PV.int)).symm▸(List.length_map (as:=l) PV.int).symm▸Nat.le_trans h (by decide))
 exact (Vw h1).trans ((Vw h2).trans tF)
end
theorem Fz {α β:Type} {f g:α->β}:∀ {l:List α},l.map f=l.map g->G8 (λ x=>f x=g x) l
 | [],_=>trivial
 | x::l,h=>⟨(List.cons.inj h).1,Fz (List.cons.inj h).2⟩
theorem G8.mono {α:Type} {p q:α->Prop} (hpq:∀ x,p x->q x):∀ {l:List α},G8 p l->G8 q l
 | [],_=>trivial
 | x::l,h=>⟨hpq x h.1,G8.mono hpq h.2⟩
abbrev A0y:=Arguments×FuncBody×Scope×List (Str×Addr)×Addr×Addr×Value×Bool
def Ay7 (K:Frag) (a:Nat):Option A0y:=(K.lookup a).bind λ o=>match o.data with
 | .func fd=>some (fd.params,fd.body,fd.scope,fd.closure,fd.globals,fd.builtins,fd.defaults,codeIn K fd.code fd.qualname)
 | _=>none
def Ay6 (st:Option Stmt):Option A0y:=(fdV st).map λ V=>(V.1,.stmts V.2.1,V.2.2,[],mainGlobals,builtinsNs,.none,true)
theorem Aoy {K:Frag} {a:Nat} {st:Option Stmt} (e:Ay7 K a=Ay6 st) (h:(fdV st).isSome=true):Avf K a st:=by
 cases hV:fdV st with
 | none=>rw [hV] at h;cases h
 | some V=>
  unfold Ay7 Ay6 at e
  rw [hV] at e
  cases ho:K.lookup a with
  | none=>rw [ho] at e;cases e
  | some o=>
   rw [ho] at e
   have e:(match o.data with
    | .func fd=>some (fd.params,fd.body,fd.scope,fd.closure,fd.globals,fd.builtins,fd.defaults,codeIn K fd.code fd.qualname)
    | _=>none)=some (V.1,FuncBody.stmts V.2.1,V.2.2,[],mainGlobals,builtinsNs,.none,true):=e
   split at e
   ·rename_i fd hd
    have e:=Option.some.inj e
    refine ⟨V,o.cls,o.dict,fd,o.slots,hV,?_,⟨congrArg (·.1) e,congrArg (·.2.1) e,congrArg (·.2.2.1) e,congrArg (·.2.2.2.1) e,congrArg (·.2.2.2.2.1) e,congrArg (·.2.2.2.2.2.1) e,congrArg (·.2.2.2.2.2.2.1) e⟩,congrArg (·.2.2.2.2.2.2.2) e⟩
    rw [ho,<-hd]
   ·cases e
theorem A5f {K:Frag} (fn:fnT.map (λ r=>(Ay7 K r.1,(fdV r.2).isSome))=fnT.map λ r=>(Ay6 r.2,true))
  (g:gTb.map (λ x=>nsIn K mainGlobals x.1)=gTb.map λ x=>some (some (.ref x.2)))
  (b:bT.map (nsIn K mainGlobals)=bT.map λ Z=>some none)
  (m:mT.map (λ x=>(plainGet K x.1 x.2.1,findIn K (.ref x.1) x.2.1,typeIn K (.ref x.2.2)))=mT.map λ x=>(true,some (some (.ref x.2.2)),some (.type "function")))
  (at_:aT.map (λ x=>H4 K x.1 x.2)=aT.map λ Z=>true)
  (made:D3.map (λ C=>(keepIn K (.ref C),makesIn K C))=D3.map λ Z=>(true,true))
  (int:∃ t,nsIn K mainGlobals "MOST_SIZE"=some (some (.int 10000 t)))
  (tup:G8 (λ x=>nsIn K mainGlobals x.1=some (some (.ref x.2.1))/\∃ vs n osl,K.lookup x.2.1=some ⟨.type "tuple",none,.seq (List.toArray vs) n,osl⟩/\Ww x.2.2 vs=true) tT')
  (sets:Y4 K=true) (i0:findIn K (.ref 755) "__init__"=some (some (.builtin "object.__init__"))/\findIn K (.ref 783) "__init__"=some (some (.builtin "object.__init__"))):Xt K:=
 ⟨(Fz fn).mono λ x h=>Aoy (congrArg Prod.fst h) (congrArg Prod.snd h),Fz g,Fz b,int,tup,(Fz m).mono λ x h=>⟨congrArg (·.1) h,congrArg (·.2.1) h,congrArg (·.2.2) h⟩,Fz at_,sets,(Fz made).mono λ x h=>⟨congrArg Prod.fst h,congrArg Prod.snd h⟩,i0⟩
theorem A30 {c:ClaimW} {cl:Str->Option Addr} {mean:ExcName->Option Value} {args:List WData} {s₁ s':Shared} (h1:∀ cls,c.raises args cls=false) (h2:c.post args (.bool true) args=true)
  (hk:∀ b o,s₁.heap.get? b=some o->s'.heap.get? b=some o) (ho:s'.os=s₁.os) (hg:s'.gens=#[]):GoodWG c cl mean args s₁ (.ok (.ret (.bool true))) s':=
 GoodW.toG ⟨.inl ⟨_,_,[],rfl,h1,.bool true,h2,λ Z=>⟨List.nodup_nil,λ a q=>nomatch q⟩⟩,hk,ho,hg⟩
set_option maxHeartbeats 0
local macro_rules (kind := Lean.Parser.Command.universe) | x => do
  if x[1][0].getId != `tw then Lean.Macro.throwUnsupported
  let g (s : String) (k : Nat) : List Lean.Syntax := [Mine.zqp "/0 /0 /0 /0 /0 /0 /0 %Lean.Parser.Command.declModifiers/7 theorem 0 /0 %Lean.Parser.Command.declId/2 ( #p /1 : Prop ^prop/1 /2 /0 ) ^explicitBinder/5 ( #q /1 : #p /2 /0 ) ^explicitBinder/5 /2 : #p ^typeSpec/2 %Lean.Parser.Command.declSig/2 := #q /0 /0 %Lean.Parser.Termination.suffix/2 /0 %Lean.Parser.Command.declValSimple/4 %Lean.Parser.Command.theorem/4 %Lean.Parser.Command.declaration/2" [Lean.mkIdent (.mkSimple ("tw" ++ s ++ toString k))]]
  let f (s : String) (k : Nat) := g "" (Lean.Name.mkStr `Mine.top (s ++ "_1_" ++ toString k)).hash.toNat
  let h (s : String) (l : List Nat) := l.foldl (fun r k => f s k ++ r) []
  return Mine.zqN (Mine.zqL (fun k => if Nat.testBit 0x3bf7bdef51defdfff7efdde8fff7efdde8fff7eef47ffbf77a3ffdfbf77a0fbfd1ffbdfbdfbf7bbd1ffef7bf77a3ffdeef47ff7ef7eef407dfbf7efdfbdef7efdde7ffbdfbdfbf7efdfbf7efdfbdef7efdde88fff7efdefdfbf7efdfbbd1f51f7bf7bdfbdefdfbf7a80defdfbf7ef7efdefdfbbcfff7efdefdfbf7ef7efdefdfbbd1d47dfbdefdeff7d1fdf47f7d1ffdfbdffac1a0 k then f "o" (k + 39) else []) 1300 ++ h "tree" [50,92,110,128,182,192,303,387,468,480,567,571,706,786,834,865,908,968,987,1029,1062,1095,1135,1192,1229] ++ h "sts" [52,94,112,130,184,194,393,470,482,569,573,792,836,867,910,970,991,1031,1064,1097,1137,1194] ++ h "heap" [39, 48, 1231] ++ h "env" [42] ++ h "view" [40] ++ g "862308880752441489" 8 ++ g "1101007693915198705" 7)
namespace top
universe tw
end top
end Mine
end
set_option maxHeartbeats 0
set_option Elab.async true
theorem Mine.top:PySem.Challenge.rw_pq0105_01.Holds:=by
 (w_on;o_law;k_head;(case hw=>w_witness2)
  k_fill
  intro w s₀ s₁ mg mb G Y fa o pm cd doc dV kV ho hd hcd hD hmg hg args vals as hpre hlay hrd hwl hlo
  have KX:=kIn_of Y
  refine Ground.open G ?_
  intro T B D TE TW
  wrow_args hpre hlay hrd hwl hlo
  clear ho hd hcd hD
  have kok:Mine.Xt (Mine.top.heap_1_39 w.params):=by
   refine Mine.A5f (by kernel_rfl) (by kernel_rfl) (by kernel_rfl) (by kernel_rfl) (by kernel_rfl) (by kernel_rfl) ⟨467,by kernel_rfl⟩ ?_ (by kernel_rfl) ⟨by kernel_rfl,by kernel_rfl⟩
   unfold Mine.tT'
   repeat' first|exact trivial|refine And.intro ⟨by kernel_rfl,_,_,_,rfl,by kernel_rfl⟩ ?_
  have hn6:Mine.Ave.c.n≤600:=Nat.le_of_ble_eq_true (show Nat.ble Mine.Ave.c.n 600=true by kernel_rfl)
  have hlw:nsIn (Mine.top.heap_1_39 w.params) mainGlobals "law"=some (some (.ref 906)):=by kernel_rfl
  refine Mine.A7p Mine.Ave.c hn6 Mine.truth kok KX (topRead_of T) hmg hlw (by assumption) (by assumption) (by omega) _ _ ?_
  intro s' hk ho hgs
  exact Mine.A30 (fun _=>rfl) (by kernel_rfl) hk ho (hgs.trans hg))
theorem PySem.Challenge.cw_pq0105_01_holds : PySem.Challenge.rw_pq0105_01.Holds := by
 exact Mine.top
