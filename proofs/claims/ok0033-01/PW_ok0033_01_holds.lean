import PyProof.Rows.All
import Wide.All
import OpenK.AllK
import Wide.FinOn
import Lean
import PySem.Challenge.RW_ok0033_01
set_option Elab.async false
set_option linter.all false
set_option maxRecDepth 100000
set_option maxHeartbeats 4000000
namespace Mine
section
open PySem PySem.W PySem.Calls PyProof.Rows
@[reducible] noncomputable def PR:Program:=PySem.Challenge.pw_ok0033_01
noncomputable def Gf:List Stmt→Nat→Stmt
  | [],_ =>.Pass ⟨0,0,0,0⟩
  | a::_,0=>a
  | _::r,n+1=>Gf r n
noncomputable def sBd:Stmt→List Stmt
  | .FunctionDef (body:=b) .. =>b
  | .ClassDef (body:=b) .. =>b
  | _=>[]
noncomputable def sAr:Stmt→Arguments
  | .FunctionDef (args:=a) .. =>a
  | _=>{posonlyargs:=[],args:=[],vararg:=none,kwonlyargs:=[],kw_defaults:=[],kwarg:=none,defaults:=[] }
noncomputable def sSc:Stmt→Scope
  | .FunctionDef (scope:=a) .. =>a
  | _=>PR.main.scope
@[reducible] noncomputable def aN:Value :=.none
@[reducible] noncomputable def aB (b:Bool):Value :=.bool b
@[reducible] noncomputable def aI (i:Int)(t:Nat):Value :=.int i t
@[reducible] noncomputable def aS (x:String)(t:Nat):Value :=.str (.ofString x) t
@[reducible] noncomputable def aT (x:String):Value :=.type x
@[reducible] noncomputable def aF (x:String):Value :=.builtin x
@[reducible] noncomputable def aR (a:Nat):Value :=.ref a
@[reducible] noncomputable def de (P:Params)(x:String)(t:Nat)(v:Value):DictEntry:=⟨PyData.keyHash P (.ofString x),.str (.ofString x) t,v⟩
@[reducible] noncomputable def n (v:Obj)(l r:BT):BT :=.node v l r
@[reducible] noncomputable def e:BT :=.nil
noncomputable def A1 (i:Nat):Arguments:=sAr (Gf PR.main.body i)
noncomputable def B1 (i:Nat):List Stmt:=sBd (Gf PR.main.body i)
noncomputable def S1 (i:Nat):Scope:=sSc (Gf PR.main.body i)
noncomputable def A (i j:Nat):Arguments:=sAr (Gf (sBd (Gf PR.main.body i)) j)
noncomputable def B (i j:Nat):List Stmt:=sBd (Gf (sBd (Gf PR.main.body i)) j)
noncomputable def S (i j:Nat):Scope:=sSc (Gf (sBd (Gf PR.main.body i)) j)
@[reducible] noncomputable def V {T:Type}(_:T):Type:=T
@[reducible] noncomputable def VF {T:Type}(X:T):Type:=∀ l:T,l=X→V X
theorem rw0:True:=by
  k_with "v" =>(refine (?f:VF _) _ (by conv=>{rhs;whnf});exact fun l _=>l)
  trivial
@[reducible] noncomputable def Zf3:Arguments:=(by k_extra "v" :V (A 3 0))
@[reducible] noncomputable def Zf2:List Stmt:=(by k_extra "v" :V (B 3 0))
@[reducible] noncomputable def Zf1:Scope:=(by k_extra "v" :V (S 3 0))
@[reducible] noncomputable def Zlu:Arguments:=(by k_extra "v" :V (A1 11))
@[reducible] noncomputable def ZkU:List Stmt:=(by k_extra "v" :V (B1 11))
@[reducible] noncomputable def Zkj:Scope:=(by k_extra "v" :V (S1 11))
@[reducible] noncomputable def Zlt:Arguments:=(by k_extra "v" :V (A1 12))
@[reducible] noncomputable def ZkT:List Stmt:=(by k_extra "v" :V (B1 12))
@[reducible] noncomputable def Zki:Scope:=(by k_extra "v" :V (S1 12))
@[reducible] noncomputable def Zd2:Arguments:=(by k_extra "v" :V (A 13 0))
@[reducible] noncomputable def Gn:List Stmt:=(by k_extra "v" :V (B 13 0))
@[reducible] noncomputable def Z3:Scope:=(by k_extra "v" :V (S 13 0))
@[reducible] noncomputable def Zd1:Arguments:=(by k_extra "v" :V (A 13 1))
@[reducible] noncomputable def Zdx:List Stmt:=(by k_extra "v" :V (B 13 1))
@[reducible] noncomputable def Zc1:Scope:=(by k_extra "v" :V (S 13 1))
@[reducible] noncomputable def Zd0:Arguments:=(by k_extra "v" :V (A 13 2))
@[reducible] noncomputable def Zdw:List Stmt:=(by k_extra "v" :V (B 13 2))
@[reducible] noncomputable def Zc0:Scope:=(by k_extra "v" :V (S 13 2))
@[reducible] noncomputable def ZdZ:Arguments:=(by k_extra "v" :V (A 13 3))
@[reducible] noncomputable def Zdv:List Stmt:=(by k_extra "v" :V (B 13 3))
@[reducible] noncomputable def ZcZ:Scope:=(by k_extra "v" :V (S 13 3))
@[reducible] noncomputable def ZdY:Arguments:=(by k_extra "v" :V (A 13 4))
@[reducible] noncomputable def Zdu:List Stmt:=(by k_extra "v" :V (B 13 4))
@[reducible] noncomputable def ZcY:Scope:=(by k_extra "v" :V (S 13 4))
@[reducible] noncomputable def Zls:Arguments:=(by k_extra "v" :V (A1 16))
@[reducible] noncomputable def ZkS:List Stmt:=(by k_extra "v" :V (B1 16))
@[reducible] noncomputable def Zkh:Scope:=(by k_extra "v" :V (S1 16))
@[reducible] noncomputable def Zlr:Arguments:=(by k_extra "v" :V (A1 17))
@[reducible] noncomputable def ZkR:List Stmt:=(by k_extra "v" :V (B1 17))
@[reducible] noncomputable def Zkg:Scope:=(by k_extra "v" :V (S1 17))
@[reducible] noncomputable def Zlq:Arguments:=(by k_extra "v" :V (A1 18))
@[reducible] noncomputable def ZkQ:List Stmt:=(by k_extra "v" :V (B1 18))
@[reducible] noncomputable def Zkf:Scope:=(by k_extra "v" :V (S1 18))
@[reducible] noncomputable def Zlp:Arguments:=(by k_extra "v" :V (A1 19))
@[reducible] noncomputable def ZkP:List Stmt:=(by k_extra "v" :V (B1 19))
@[reducible] noncomputable def Zke:Scope:=(by k_extra "v" :V (S1 19))
@[reducible] noncomputable def Zlo:Arguments:=(by k_extra "v" :V (A1 21))
@[reducible] noncomputable def ZkO:List Stmt:=(by k_extra "v" :V (B1 21))
@[reducible] noncomputable def Zkd:Scope:=(by k_extra "v" :V (S1 21))
@[reducible] noncomputable def Zln:Arguments:=(by k_extra "v" :V (A1 23))
@[reducible] noncomputable def ZkN:List Stmt:=(by k_extra "v" :V (B1 23))
@[reducible] noncomputable def Zkc:Scope:=(by k_extra "v" :V (S1 23))
@[reducible] noncomputable def Zlm:Arguments:=(by k_extra "v" :V (A1 24))
@[reducible] noncomputable def ZkM:List Stmt:=(by k_extra "v" :V (B1 24))
@[reducible] noncomputable def Zkb:Scope:=(by k_extra "v" :V (S1 24))
@[reducible] noncomputable def ZdX:Arguments:=(by k_extra "v" :V (A 38 0))
@[reducible] noncomputable def Zdt:List Stmt:=(by k_extra "v" :V (B 38 0))
@[reducible] noncomputable def ZcX:Scope:=(by k_extra "v" :V (S 38 0))
@[reducible] noncomputable def ZdW:Arguments:=(by k_extra "v" :V (A 38 1))
@[reducible] noncomputable def Zds:List Stmt:=(by k_extra "v" :V (B 38 1))
@[reducible] noncomputable def ZcW:Scope:=(by k_extra "v" :V (S 38 1))
@[reducible] noncomputable def ZdV:Arguments:=(by k_extra "v" :V (A 38 2))
@[reducible] noncomputable def Zdr:List Stmt:=(by k_extra "v" :V (B 38 2))
@[reducible] noncomputable def ZcV:Scope:=(by k_extra "v" :V (S 38 2))
@[reducible] noncomputable def ZdU:Arguments:=(by k_extra "v" :V (A 38 5))
@[reducible] noncomputable def Zdq:List Stmt:=(by k_extra "v" :V (B 38 5))
@[reducible] noncomputable def ZcU:Scope:=(by k_extra "v" :V (S 38 5))
@[reducible] noncomputable def ZdT:Arguments:=(by k_extra "v" :V (A 38 6))
@[reducible] noncomputable def Zdp:List Stmt:=(by k_extra "v" :V (B 38 6))
@[reducible] noncomputable def ZcT:Scope:=(by k_extra "v" :V (S 38 6))
@[reducible] noncomputable def ZdS:Arguments:=(by k_extra "v" :V (A 38 7))
@[reducible] noncomputable def Zdo:List Stmt:=(by k_extra "v" :V (B 38 7))
@[reducible] noncomputable def ZcS:Scope:=(by k_extra "v" :V (S 38 7))
@[reducible] noncomputable def ZdR:Arguments:=(by k_extra "v" :V (A 38 9))
@[reducible] noncomputable def Zdn:List Stmt:=(by k_extra "v" :V (B 38 9))
@[reducible] noncomputable def ZcR:Scope:=(by k_extra "v" :V (S 38 9))
@[reducible] noncomputable def ZaR:Arguments:=(by k_extra "v" :V (A 38 13))
@[reducible] noncomputable def ZaO:List Stmt:=(by k_extra "v" :V (B 38 13))
@[reducible] noncomputable def ZaL:Scope:=(by k_extra "v" :V (S 38 13))
@[reducible] noncomputable def ZdQ:Arguments:=(by k_extra "v" :V (A 39 3))
@[reducible] noncomputable def Zdm:List Stmt:=(by k_extra "v" :V (B 39 3))
@[reducible] noncomputable def ZcQ:Scope:=(by k_extra "v" :V (S 39 3))
@[reducible] noncomputable def ZdP:Arguments:=(by k_extra "v" :V (A 39 4))
@[reducible] noncomputable def Zdl:List Stmt:=(by k_extra "v" :V (B 39 4))
@[reducible] noncomputable def ZcP:Scope:=(by k_extra "v" :V (S 39 4))
@[reducible] noncomputable def ZdO:Arguments:=(by k_extra "v" :V (A 42 0))
@[reducible] noncomputable def Zdk:List Stmt:=(by k_extra "v" :V (B 42 0))
@[reducible] noncomputable def ZcO:Scope:=(by k_extra "v" :V (S 42 0))
@[reducible] noncomputable def ZdN:Arguments:=(by k_extra "v" :V (A 42 1))
@[reducible] noncomputable def Zdj:List Stmt:=(by k_extra "v" :V (B 42 1))
@[reducible] noncomputable def ZcN:Scope:=(by k_extra "v" :V (S 42 1))
@[reducible] noncomputable def ZdM:Arguments:=(by k_extra "v" :V (A 42 2))
@[reducible] noncomputable def Zdi:List Stmt:=(by k_extra "v" :V (B 42 2))
@[reducible] noncomputable def ZcM:Scope:=(by k_extra "v" :V (S 42 2))
@[reducible] noncomputable def ZaQ:Arguments:=(by k_extra "v" :V (A 42 11))
@[reducible] noncomputable def ZaN:List Stmt:=(by k_extra "v" :V (B 42 11))
@[reducible] noncomputable def ZaK:Scope:=(by k_extra "v" :V (S 42 11))
@[reducible] noncomputable def ZaP:Arguments:=(by k_extra "v" :V (A 42 12))
@[reducible] noncomputable def ZaM:List Stmt:=(by k_extra "v" :V (B 42 12))
@[reducible] noncomputable def ZaJ:Scope:=(by k_extra "v" :V (S 42 12))
@[reducible] noncomputable def Zll:Arguments:=(by k_extra "v" :V (A1 44))
@[reducible] noncomputable def ZkL:List Stmt:=(by k_extra "v" :V (B1 44))
@[reducible] noncomputable def Zka:Scope:=(by k_extra "v" :V (S1 44))
@[reducible] noncomputable def Zlk:Arguments:=(by k_extra "v" :V (A1 46))
@[reducible] noncomputable def ZkK:List Stmt:=(by k_extra "v" :V (B1 46))
@[reducible] noncomputable def Zj9:Scope:=(by k_extra "v" :V (S1 46))
@[reducible] noncomputable def Zlj:Arguments:=(by k_extra "v" :V (A1 47))
@[reducible] noncomputable def ZkJ:List Stmt:=(by k_extra "v" :V (B1 47))
@[reducible] noncomputable def Zj8:Scope:=(by k_extra "v" :V (S1 47))
@[reducible] noncomputable def Zli:Arguments:=(by k_extra "v" :V (A1 48))
@[reducible] noncomputable def ZkI:List Stmt:=(by k_extra "v" :V (B1 48))
@[reducible] noncomputable def Zj7:Scope:=(by k_extra "v" :V (S1 48))
@[reducible] noncomputable def Zlh:Arguments:=(by k_extra "v" :V (A1 49))
@[reducible] noncomputable def ZkH:List Stmt:=(by k_extra "v" :V (B1 49))
@[reducible] noncomputable def Zj6:Scope:=(by k_extra "v" :V (S1 49))
@[reducible] noncomputable def Zlg:Arguments:=(by k_extra "v" :V (A1 50))
@[reducible] noncomputable def ZkG:List Stmt:=(by k_extra "v" :V (B1 50))
@[reducible] noncomputable def Zj5:Scope:=(by k_extra "v" :V (S1 50))
@[reducible] noncomputable def Zlf:Arguments:=(by k_extra "v" :V (A1 51))
@[reducible] noncomputable def ZkF:List Stmt:=(by k_extra "v" :V (B1 51))
@[reducible] noncomputable def Zj4:Scope:=(by k_extra "v" :V (S1 51))
@[reducible] noncomputable def Zle:Arguments:=(by k_extra "v" :V (A1 52))
@[reducible] noncomputable def ZkE:List Stmt:=(by k_extra "v" :V (B1 52))
@[reducible] noncomputable def Zj3:Scope:=(by k_extra "v" :V (S1 52))
@[reducible] noncomputable def Zld:Arguments:=(by k_extra "v" :V (A1 53))
@[reducible] noncomputable def ZkD:List Stmt:=(by k_extra "v" :V (B1 53))
@[reducible] noncomputable def Zj2:Scope:=(by k_extra "v" :V (S1 53))
@[reducible] noncomputable def Zlc:Arguments:=(by k_extra "v" :V (A1 54))
@[reducible] noncomputable def ZkC:List Stmt:=(by k_extra "v" :V (B1 54))
@[reducible] noncomputable def Zj1:Scope:=(by k_extra "v" :V (S1 54))
@[reducible] noncomputable def Zlb:Arguments:=(by k_extra "v" :V (A1 55))
@[reducible] noncomputable def ZkB:List Stmt:=(by k_extra "v" :V (B1 55))
@[reducible] noncomputable def Zj0:Scope:=(by k_extra "v" :V (S1 55))
@[reducible] noncomputable def Zla:Arguments:=(by k_extra "v" :V (A1 56))
@[reducible] noncomputable def ZkA:List Stmt:=(by k_extra "v" :V (B1 56))
@[reducible] noncomputable def ZjZ:Scope:=(by k_extra "v" :V (S1 56))
@[reducible] noncomputable def Zk9:Arguments:=(by k_extra "v" :V (A1 63))
@[reducible] noncomputable def Zkz:List Stmt:=(by k_extra "v" :V (B1 63))
@[reducible] noncomputable def ZjY:Scope:=(by k_extra "v" :V (S1 63))
@[reducible] noncomputable def Zk8:Arguments:=(by k_extra "v" :V (A1 64))
@[reducible] noncomputable def Zky:List Stmt:=(by k_extra "v" :V (B1 64))
@[reducible] noncomputable def ZjX:Scope:=(by k_extra "v" :V (S1 64))
@[reducible] noncomputable def ZdL:Arguments:=(by k_extra "v" :V (A 65 0))
@[reducible] noncomputable def Zdh:List Stmt:=(by k_extra "v" :V (B 65 0))
@[reducible] noncomputable def ZcL:Scope:=(by k_extra "v" :V (S 65 0))
@[reducible] noncomputable def ZdK:Arguments:=(by k_extra "v" :V (A 65 5))
@[reducible] noncomputable def Zdg:List Stmt:=(by k_extra "v" :V (B 65 5))
@[reducible] noncomputable def ZcK:Scope:=(by k_extra "v" :V (S 65 5))
@[reducible] noncomputable def ZdJ:Arguments:=(by k_extra "v" :V (A 65 6))
@[reducible] noncomputable def Zdf:List Stmt:=(by k_extra "v" :V (B 65 6))
@[reducible] noncomputable def ZcJ:Scope:=(by k_extra "v" :V (S 65 6))
@[reducible] noncomputable def ZdI:Arguments:=(by k_extra "v" :V (A 67 0))
@[reducible] noncomputable def Gm:List Stmt:=(by k_extra "v" :V (B 67 0))
@[reducible] noncomputable def Yx:Scope:=(by k_extra "v" :V (S 67 0))
@[reducible] noncomputable def ZdH:Arguments:=(by k_extra "v" :V (A 69 0))
@[reducible] noncomputable def Zde:List Stmt:=(by k_extra "v" :V (B 69 0))
@[reducible] noncomputable def ZcI:Scope:=(by k_extra "v" :V (S 69 0))
@[reducible] noncomputable def Zk7:Arguments:=(by k_extra "v" :V (A1 73))
@[reducible] noncomputable def Zkx:List Stmt:=(by k_extra "v" :V (B1 73))
@[reducible] noncomputable def ZjW:Scope:=(by k_extra "v" :V (S1 73))
@[reducible] noncomputable def Zk6:Arguments:=(by k_extra "v" :V (A1 74))
@[reducible] noncomputable def Zkw:List Stmt:=(by k_extra "v" :V (B1 74))
@[reducible] noncomputable def ZjV:Scope:=(by k_extra "v" :V (S1 74))
@[reducible] noncomputable def Zk5:Arguments:=(by k_extra "v" :V (A1 76))
@[reducible] noncomputable def Zkv:List Stmt:=(by k_extra "v" :V (B1 76))
@[reducible] noncomputable def ZjU:Scope:=(by k_extra "v" :V (S1 76))
@[reducible] noncomputable def Zk4:Arguments:=(by k_extra "v" :V (A1 77))
@[reducible] noncomputable def Zku:List Stmt:=(by k_extra "v" :V (B1 77))
@[reducible] noncomputable def ZjT:Scope:=(by k_extra "v" :V (S1 77))
@[reducible] noncomputable def ZdG:Arguments:=(by k_extra "v" :V (A 81 0))
@[reducible] noncomputable def Zdd:List Stmt:=(by k_extra "v" :V (B 81 0))
@[reducible] noncomputable def ZcH:Scope:=(by k_extra "v" :V (S 81 0))
@[reducible] noncomputable def ZdF:Arguments:=(by k_extra "v" :V (A 81 1))
@[reducible] noncomputable def Zdc:List Stmt:=(by k_extra "v" :V (B 81 1))
@[reducible] noncomputable def ZcG:Scope:=(by k_extra "v" :V (S 81 1))
@[reducible] noncomputable def ZdE:Arguments:=(by k_extra "v" :V (A 81 2))
@[reducible] noncomputable def Zdb:List Stmt:=(by k_extra "v" :V (B 81 2))
@[reducible] noncomputable def ZcF:Scope:=(by k_extra "v" :V (S 81 2))
@[reducible] noncomputable def ZdD:Arguments:=(by k_extra "v" :V (A 81 3))
@[reducible] noncomputable def Zda:List Stmt:=(by k_extra "v" :V (B 81 3))
@[reducible] noncomputable def ZcE:Scope:=(by k_extra "v" :V (S 81 3))
@[reducible] noncomputable def ZdC:Arguments:=(by k_extra "v" :V (A 81 4))
@[reducible] noncomputable def Zc9:List Stmt:=(by k_extra "v" :V (B 81 4))
@[reducible] noncomputable def ZcD:Scope:=(by k_extra "v" :V (S 81 4))
@[reducible] noncomputable def ZdB:Arguments:=(by k_extra "v" :V (A 81 5))
@[reducible] noncomputable def Zc8:List Stmt:=(by k_extra "v" :V (B 81 5))
@[reducible] noncomputable def ZcC:Scope:=(by k_extra "v" :V (S 81 5))
@[reducible] noncomputable def ZdA:Arguments:=(by k_extra "v" :V (A 81 6))
@[reducible] noncomputable def Zc7:List Stmt:=(by k_extra "v" :V (B 81 6))
@[reducible] noncomputable def ZcB:Scope:=(by k_extra "v" :V (S 81 6))
@[reducible] noncomputable def Zdz:Arguments:=(by k_extra "v" :V (A 83 0))
@[reducible] noncomputable def Zc6:List Stmt:=(by k_extra "v" :V (B 83 0))
@[reducible] noncomputable def ZcA:Scope:=(by k_extra "v" :V (S 83 0))
@[reducible] noncomputable def Zdy:Arguments:=(by k_extra "v" :V (A 84 0))
@[reducible] noncomputable def Zc5:List Stmt:=(by k_extra "v" :V (B 84 0))
@[reducible] noncomputable def Zcz:Scope:=(by k_extra "v" :V (S 84 0))
@[reducible] noncomputable def Zk3:Arguments:=(by k_extra "v" :V (A1 86))
@[reducible] noncomputable def Zkt:List Stmt:=(by k_extra "v" :V (B1 86))
@[reducible] noncomputable def ZjS:Scope:=(by k_extra "v" :V (S1 86))
@[reducible] noncomputable def Zk2:Arguments:=(by k_extra "v" :V (A1 87))
@[reducible] noncomputable def Zks:List Stmt:=(by k_extra "v" :V (B1 87))
@[reducible] noncomputable def ZjR:Scope:=(by k_extra "v" :V (S1 87))
@[reducible] noncomputable def Zk1:Arguments:=(by k_extra "v" :V (A1 88))
@[reducible] noncomputable def Zkr:List Stmt:=(by k_extra "v" :V (B1 88))
@[reducible] noncomputable def ZjQ:Scope:=(by k_extra "v" :V (S1 88))
@[reducible] noncomputable def Zk0:Arguments:=(by k_extra "v" :V (A1 89))
@[reducible] noncomputable def Zkq:List Stmt:=(by k_extra "v" :V (B1 89))
@[reducible] noncomputable def ZjP:Scope:=(by k_extra "v" :V (S1 89))
@[reducible] noncomputable def ZkZ:Arguments:=(by k_extra "v" :V (A1 90))
@[reducible] noncomputable def Zkp:List Stmt:=(by k_extra "v" :V (B1 90))
@[reducible] noncomputable def ZjO:Scope:=(by k_extra "v" :V (S1 90))
@[reducible] noncomputable def ZkY:Arguments:=(by k_extra "v" :V (A1 91))
@[reducible] noncomputable def Zko:List Stmt:=(by k_extra "v" :V (B1 91))
@[reducible] noncomputable def ZjN:Scope:=(by k_extra "v" :V (S1 91))
@[reducible] noncomputable def ZkX:Arguments:=(by k_extra "v" :V (A1 92))
@[reducible] noncomputable def U4:List Stmt:=(by k_extra "v" :V (B1 92))
@[reducible] noncomputable def Z7:Scope:=(by k_extra "v" :V (S1 92))
@[reducible] noncomputable def ZkW:Arguments:=(by k_extra "v" :V (A1 93))
@[reducible] noncomputable def Zc4:List Stmt:=(by k_extra "v" :V (B1 93))
@[reducible] noncomputable def ZgI:Scope:=(by k_extra "v" :V (S1 93))
@[reducible] noncomputable def ZkV:Arguments:=(by k_extra "v" :V (A1 94))
@[reducible] noncomputable def We:List Stmt:=(by k_extra "v" :V (B1 94))
@[reducible] noncomputable def Zu:Scope:=(by k_extra "v" :V (S1 94))
@[reducible] noncomputable def ZiY (P:Params):Obj:=⟨aN,none,(.dict #[de P "type.__subclasses__.Exception.0" 212 (aI 31 0),de P "type.__subclasses__.Exception.n" 213 (aI 1 0)] 2),#[]⟩
@[reducible] noncomputable def o30 (P:Params):Obj:=⟨aT "dict",none,(.dict #[de P "__module__" 203 (aS "clausemill.symbols" 194),de P "__firstlineno__" 207 (aI 5 206),de P "__static_attributes__" 208 (aR 29),de P "__weakref__" 210 (aR 32),de P "__doc__" 211 aN] 3),#[]⟩
@[reducible] noncomputable def Zfx (P:Params):Obj:=⟨aT "type",none,(.cls ⟨(.ofString "ClausemillError"),[aT "Exception"],[aR 31,aT "Exception",aT "BaseException",aT "object"],30,(.ofString "ClausemillError"),true,[],[aR 51],false,none,false⟩),#[some (aR 22),none,some (aS "ClausemillError" 196),some (aS "ClausemillError" 204),some (aF "Exception.__new__"),some (aB true)]⟩
@[reducible] noncomputable def o47 (P:Params):Obj:=⟨aT "code",none,.fields #[aS "__init__" 228,aS "PrologError.__init__" 229,aS "/claim/cut.py" 230,aI 9 0,aI 2 0,aI 0 0,aI 0 0,aI 3 0,aR 42,aB true,aI 181 0,aR 43,aN,aR 44,aR 45,aR 46,aI 233 0,aI 9 0,aS "/claim/cut.py" 234],#[]⟩
@[reducible] noncomputable def o48 (P:Params):Obj:=⟨aT "function",none,(.func ⟨(.ofString "__init__"),(.ofString "PrologError.__init__"),Zf3,.stmts Zf2,Zf1,3,[],aN,aN,aN,aS "clausemill.symbols" 194,none,aR 47,aN,0⟩),#[]⟩
@[reducible] noncomputable def o50 (P:Params):Obj:=⟨aT "dict",none,(.dict #[de P "__module__" 223 (aS "clausemill.symbols" 194),de P "__firstlineno__" 227 (aI 7 226),de P "__init__" 235 (aR 48),de P "__static_attributes__" 237 (aR 49),de P "__doc__" 238 aN] 2),#[]⟩
@[reducible] noncomputable def o51 (P:Params):Obj:=⟨aT "type",none,(.cls ⟨(.ofString "PrologError"),[aR 31],[aR 51,aR 31,aT "Exception",aT "BaseException",aT "object"],50,(.ofString "PrologError"),true,[],[],false,none,false⟩),#[some (aR 35),none,some (aS "PrologError" 216),some (aS "PrologError" 224),some (aF "Exception.__new__"),some (aB true)]⟩
@[reducible] noncomputable def o59 (P:Params):Obj:=⟨aT "code",none,.fields #[aS "fixed_atoms" 255,aS "fixed_atoms" 256,aS "/claim/cut.py" 257,aI 18 0,aI 0 0,aI 0 0,aI 0 0,aI 3 0,aR 54,aB true,aI 181 0,aR 55,aN,aR 56,aR 57,aR 58,aI 258 0,aI 18 0,aS "/claim/cut.py" 259],#[]⟩
@[reducible] noncomputable def o60 (P:Params):Obj:=⟨aT "function",none,(.func ⟨(.ofString "fixed_atoms"),(.ofString "fixed_atoms"),Zlu,.stmts ZkU,Zkj,3,[],aN,aN,aN,aS "clausemill.symbols" 194,none,aR 59,aN,0⟩),#[]⟩
@[reducible] noncomputable def o66 (P:Params):Obj:=⟨aT "code",none,.fields #[aS "fixed_functors" 261,aS "fixed_functors" 262,aS "/claim/cut.py" 263,aI 20 0,aI 0 0,aI 0 0,aI 0 0,aI 3 0,aR 61,aB true,aI 181 0,aR 62,aN,aR 63,aR 64,aR 65,aI 264 0,aI 20 0,aS "/claim/cut.py" 265],#[]⟩
@[reducible] noncomputable def o67 (P:Params):Obj:=⟨aT "function",none,(.func ⟨(.ofString "fixed_functors"),(.ofString "fixed_functors"),Zlt,.stmts ZkT,Zki,3,[],aN,aN,aN,aS "clausemill.symbols" 194,none,aR 66,aN,0⟩),#[]⟩
@[reducible] noncomputable def o80 (P:Params):Obj:=⟨aT "code",none,.fields #[aS "__init__" 279,aS "Symbols.__init__" 280,aS "/claim/cut.py" 281,aI 24 0,aI 1 0,aI 0 0,aI 0 0,aI 3 0,aR 75,aB true,aI 181 0,aR 76,aN,aR 77,aR 78,aR 79,aI 285 0,aI 24 0,aS "/claim/cut.py" 286],#[]⟩
@[reducible] noncomputable def o81 (P:Params):Obj:=⟨aT "function",none,(.func ⟨(.ofString "__init__"),(.ofString "Symbols.__init__"),Zd2,.stmts Gn,Z3,3,[],aN,aN,aN,aS "clausemill.symbols" 194,none,aR 80,aN,0⟩),#[]⟩
@[reducible] noncomputable def o87 (P:Params):Obj:=⟨aT "code",none,.fields #[aS "atom" 288,aS "Symbols.atom" 289,aS "/claim/cut.py" 290,aI 34 0,aI 2 0,aI 0 0,aI 0 0,aI 3 0,aR 82,aB true,aI 181 0,aR 83,aN,aR 84,aR 85,aR 86,aI 295 0,aI 34 0,aS "/claim/cut.py" 296],#[]⟩
@[reducible] noncomputable def o88 (P:Params):Obj:=⟨aT "function",none,(.func ⟨(.ofString "atom"),(.ofString "Symbols.atom"),Zd1,.stmts Zdx,Zc1,3,[],aN,aN,aN,aS "clausemill.symbols" 194,none,aR 87,aN,0⟩),#[]⟩
@[reducible] noncomputable def o94 (P:Params):Obj:=⟨aT "code",none,.fields #[aS "text" 298,aS "Symbols.text" 299,aS "/claim/cut.py" 300,aI 43 0,aI 2 0,aI 0 0,aI 0 0,aI 3 0,aR 89,aB true,aI 181 0,aR 90,aN,aR 91,aR 92,aR 93,aI 303 0,aI 43 0,aS "/claim/cut.py" 304],#[]⟩
@[reducible] noncomputable def o95 (P:Params):Obj:=⟨aT "function",none,(.func ⟨(.ofString "text"),(.ofString "Symbols.text"),Zd0,.stmts Zdw,Zc0,3,[],aN,aN,aN,aS "clausemill.symbols" 194,none,aR 94,aN,0⟩),#[]⟩
@[reducible] noncomputable def Zjv (P:Params):Obj:=⟨aT "code",none,.fields #[aS "functor" 306,aS "Symbols.functor" 307,aS "/claim/cut.py" 308,aI 46 0,aI 3 0,aI 0 0,aI 0 0,aI 3 0,aR 96,aB true,aI 181 0,aR 97,aN,aR 98,aR 99,aR 100,aI 315 0,aI 46 0,aS "/claim/cut.py" 316],#[]⟩
@[reducible] noncomputable def Zju (P:Params):Obj:=⟨aT "function",none,(.func ⟨(.ofString "functor"),(.ofString "Symbols.functor"),ZdZ,.stmts Zdv,ZcZ,3,[],aN,aN,aN,aS "clausemill.symbols" 194,none,aR 101,aN,0⟩),#[]⟩
@[reducible] noncomputable def Zjt (P:Params):Obj:=⟨aT "code",none,.fields #[aS "func" 318,aS "Symbols.func" 319,aS "/claim/cut.py" 320,aI 56 0,aI 3 0,aI 0 0,aI 0 0,aI 3 0,aR 103,aB true,aI 181 0,aR 104,aN,aR 105,aR 106,aR 107,aI 324 0,aI 56 0,aS "/claim/cut.py" 325],#[]⟩
@[reducible] noncomputable def Zjs (P:Params):Obj:=⟨aT "function",none,(.func ⟨(.ofString "func"),(.ofString "Symbols.func"),ZdY,.stmts Zdu,ZcY,3,[],aN,aN,aN,aS "clausemill.symbols" 194,none,aR 108,aN,0⟩),#[]⟩
@[reducible] noncomputable def Zjr (P:Params):Obj:=⟨aT "dict",none,(.dict #[de P "__module__" 274 (aS "clausemill.symbols" 194),de P "__firstlineno__" 278 (aI 22 277),de P "__init__" 287 (aR 81),de P "atom" 297 (aR 88),de P "text" 305 (aR 95),de P "functor" 317 (aR 102),de P "func" 326 (aR 109),de P "name" 334 (aR 116),de P "arity" 342 (aR 123),de P "label" 350 (aR 130),de P "count" 357 (aR 137),de P "functor_count" 364 (aR 144),de P "known" 374 (aR 151),de P "__static_attributes__" 379 (aR 152),de P "__dict__" 381 (aR 155),de P "__weakref__" 383 (aR 156),de P "__doc__" 384 aN] 4),#[]⟩
@[reducible] noncomputable def Zjq (P:Params):Obj:=⟨aT "type",none,(.cls ⟨(.ofString "Symbols"),[aT "object"],[aR 154,aT "object"],153,(.ofString "Symbols"),true,[],[],false,none,false⟩),#[none,none,some (aS "Symbols" 267),some (aS "Symbols" 275),some (aF "object.__new__"),some (aB true)]⟩
@[reducible] noncomputable def Zjp (P:Params):Obj:=⟨aT "code",none,.fields #[aS "integer" 396,aS "integer" 397,aS "/claim/cut.py" 398,aI 82 0,aI 1 0,aI 0 0,aI 0 0,aI 3 0,aR 166,aB true,aI 181 0,aR 167,aN,aR 168,aR 169,aR 170,aI 400 0,aI 82 0,aS "/claim/cut.py" 401],#[]⟩
@[reducible] noncomputable def Zjo (P:Params):Obj:=⟨aT "function",none,(.func ⟨(.ofString "integer"),(.ofString "integer"),Zls,.stmts ZkS,Zkh,3,[],aN,aN,aN,aS "clausemill.terms" 387,none,aR 171,aN,0⟩),#[]⟩
@[reducible] noncomputable def Zjn (P:Params):Obj:=⟨aT "code",none,.fields #[aS "struct" 403,aS "struct" 404,aS "/claim/cut.py" 405,aI 84 0,aI 2 0,aI 0 0,aI 0 0,aI 3 0,aR 173,aB true,aI 181 0,aR 174,aN,aR 175,aR 176,aR 177,aI 408 0,aI 84 0,aS "/claim/cut.py" 409],#[]⟩
@[reducible] noncomputable def Zjm (P:Params):Obj:=⟨aT "function",none,(.func ⟨(.ofString "struct"),(.ofString "struct"),Zlr,.stmts ZkR,Zkg,3,[],aN,aN,aN,aS "clausemill.terms" 387,none,aR 178,aN,0⟩),#[]⟩
@[reducible] noncomputable def Zjl (P:Params):Obj:=⟨aT "code",none,.fields #[aS "system_error" 411,aS "system_error" 412,aS "/claim/cut.py" 413,aI 86 0,aI 1 0,aI 0 0,aI 0 0,aI 3 0,aR 180,aB true,aI 181 0,aR 181,aN,aR 182,aR 183,aR 184,aI 415 0,aI 86 0,aS "/claim/cut.py" 416],#[]⟩
@[reducible] noncomputable def Zjk (P:Params):Obj:=⟨aT "function",none,(.func ⟨(.ofString "system_error"),(.ofString "system_error"),Zlq,.stmts ZkQ,Zkf,3,[],aN,aN,aN,aS "clausemill.terms" 387,none,aR 185,aN,0⟩),#[]⟩
@[reducible] noncomputable def Zjj (P:Params):Obj:=⟨aT "code",none,.fields #[aS "formal_of" 418,aS "formal_of" 419,aS "/claim/cut.py" 420,aI 88 0,aI 3 0,aI 0 0,aI 0 0,aI 3 0,aR 187,aB true,aI 181 0,aR 188,aN,aR 189,aR 190,aR 191,aI 426 0,aI 88 0,aS "/claim/cut.py" 427],#[]⟩
@[reducible] noncomputable def Zji (P:Params):Obj:=⟨aT "function",none,(.func ⟨(.ofString "formal_of"),(.ofString "formal_of"),Zlp,.stmts ZkP,Zke,3,[],aN,aN,aN,aS "clausemill.terms" 387,none,aR 192,aN,0⟩),#[]⟩
@[reducible] noncomputable def Zjh (P:Params):Obj:=⟨aT "code",none,.fields #[aS "type_error" 436,aS "type_error" 437,aS "/claim/cut.py" 438,aI 95 0,aI 3 0,aI 0 0,aI 0 0,aI 3 0,aR 201,aB true,aI 181 0,aR 202,aN,aR 203,aR 204,aR 205,aI 442 0,aI 95 0,aS "/claim/cut.py" 443],#[]⟩
@[reducible] noncomputable def Zjg (P:Params):Obj:=⟨aT "function",none,(.func ⟨(.ofString "type_error"),(.ofString "type_error"),Zlo,.stmts ZkO,Zkd,3,[],aN,aN,aN,aS "clausemill.terms" 387,none,aR 206,aN,0⟩),#[]⟩
@[reducible] noncomputable def Zjf (P:Params):Obj:=⟨aT "code",none,.fields #[aS "permission_error" 454,aS "permission_error" 455,aS "/claim/cut.py" 456,aI 99 0,aI 4 0,aI 0 0,aI 0 0,aI 3 0,aR 215,aB true,aI 181 0,aR 216,aN,aR 217,aR 218,aR 219,aI 461 0,aI 99 0,aS "/claim/cut.py" 462],#[]⟩
@[reducible] noncomputable def Zje (P:Params):Obj:=⟨aT "function",none,(.func ⟨(.ofString "permission_error"),(.ofString "permission_error"),Zln,.stmts ZkN,Zkc,3,[],aN,aN,aN,aS "clausemill.terms" 387,none,aR 220,aN,0⟩),#[]⟩
@[reducible] noncomputable def Zjd (P:Params):Obj:=⟨aT "code",none,.fields #[aS "representation_error" 464,aS "representation_error" 465,aS "/claim/cut.py" 466,aI 101 0,aI 2 0,aI 0 0,aI 0 0,aI 3 0,aR 222,aB true,aI 181 0,aR 223,aN,aR 224,aR 225,aR 226,aI 469 0,aI 101 0,aS "/claim/cut.py" 470],#[]⟩
@[reducible] noncomputable def Zjc (P:Params):Obj:=⟨aT "function",none,(.func ⟨(.ofString "representation_error"),(.ofString "representation_error"),Zlm,.stmts ZkM,Zkb,3,[],aN,aN,aN,aS "clausemill.terms" 387,none,aR 227,aN,0⟩),#[]⟩
@[reducible] noncomputable def Zjb (P:Params):Obj:=⟨aT "tuple",none,(.seq #[aI 5 494,aI 0 498] 0),#[]⟩
@[reducible] noncomputable def Zja (P:Params):Obj:=⟨aT "tuple",none,(.seq #[aI 100000 516] 0),#[]⟩
@[reducible] noncomputable def Zi9 (P:Params):Obj:=⟨aT "code",none,.fields #[aS "__init__" 517,aS "Cells.__init__" 518,aS "/claim/cut.py" 519,aI 119 0,aI 3 0,aI 0 0,aI 0 0,aI 3 0,aR 245,aB true,aI 181 0,aR 246,aN,aR 247,aR 248,aR 249,aI 523 0,aI 119 0,aS "/claim/cut.py" 524],#[]⟩
@[reducible] noncomputable def Zi8 (P:Params):Obj:=⟨aT "function",none,(.func ⟨(.ofString "__init__"),(.ofString "Cells.__init__"),ZdX,.stmts Zdt,ZcX,3,[],aR 244,aN,aN,aS "clausemill.store" 482,none,aR 250,aN,0⟩),#[]⟩
@[reducible] noncomputable def Zi7 (P:Params):Obj:=⟨aT "code",none,.fields #[aS "push" 526,aS "Cells.push" 527,aS "/claim/cut.py" 528,aI 128 0,aI 2 0,aI 0 0,aI 0 0,aI 3 0,aR 252,aB true,aI 181 0,aR 253,aN,aR 254,aR 255,aR 256,aI 532 0,aI 128 0,aS "/claim/cut.py" 533],#[]⟩
@[reducible] noncomputable def Zi6 (P:Params):Obj:=⟨aT "function",none,(.func ⟨(.ofString "push"),(.ofString "Cells.push"),ZdW,.stmts Zds,ZcW,3,[],aN,aN,aN,aS "clausemill.store" 482,none,aR 257,aN,0⟩),#[]⟩
@[reducible] noncomputable def Zi5 (P:Params):Obj:=⟨aT "code",none,.fields #[aS "new_var" 535,aS "Cells.new_var" 536,aS "/claim/cut.py" 537,aI 135 0,aI 1 0,aI 0 0,aI 0 0,aI 3 0,aR 259,aB true,aI 181 0,aR 260,aN,aR 261,aR 262,aR 263,aI 540 0,aI 135 0,aS "/claim/cut.py" 541],#[]⟩
@[reducible] noncomputable def Zi4 (P:Params):Obj:=⟨aT "function",none,(.func ⟨(.ofString "new_var"),(.ofString "Cells.new_var"),ZdV,.stmts Zdr,ZcV,3,[],aN,aN,aN,aS "clausemill.store" 482,none,aR 264,aN,0⟩),#[]⟩
@[reducible] noncomputable def Zi3 (P:Params):Obj:=⟨aT "code",none,.fields #[aS "deref" 561,aS "Cells.deref" 562,aS "/claim/cut.py" 563,aI 151 0,aI 2 0,aI 0 0,aI 0 0,aI 3 0,aR 280,aB true,aI 181 0,aR 281,aN,aR 282,aR 283,aR 284,aI 568 0,aI 151 0,aS "/claim/cut.py" 569],#[]⟩
@[reducible] noncomputable def Zi2 (P:Params):Obj:=⟨aT "function",none,(.func ⟨(.ofString "deref"),(.ofString "Cells.deref"),ZdU,.stmts Zdq,ZcU,3,[],aN,aN,aN,aS "clausemill.store" 482,none,aR 285,aN,0⟩),#[]⟩
@[reducible] noncomputable def Zi1 (P:Params):Obj:=⟨aT "code",none,.fields #[aS "is_unbound" 571,aS "Cells.is_unbound" 572,aS "/claim/cut.py" 573,aI 164 0,aI 2 0,aI 0 0,aI 0 0,aI 3 0,aR 287,aB true,aI 181 0,aR 288,aN,aR 289,aR 290,aR 291,aI 576 0,aI 164 0,aS "/claim/cut.py" 577],#[]⟩
@[reducible] noncomputable def Zi0 (P:Params):Obj:=⟨aT "function",none,(.func ⟨(.ofString "is_unbound"),(.ofString "Cells.is_unbound"),ZdT,.stmts Zdp,ZcT,3,[],aN,aN,aN,aS "clausemill.store" 482,none,aR 292,aN,0⟩),#[]⟩
@[reducible] noncomputable def ZiZ (P:Params):Obj:=⟨aT "code",none,.fields #[aS "bind" 579,aS "Cells.bind" 580,aS "/claim/cut.py" 581,aI 171 0,aI 3 0,aI 0 0,aI 0 0,aI 3 0,aR 294,aB true,aI 181 0,aR 295,aN,aR 296,aR 297,aR 298,aI 586 0,aI 171 0,aS "/claim/cut.py" 587],#[]⟩
@[reducible] noncomputable def ZiX (P:Params):Obj:=⟨aT "function",none,(.func ⟨(.ofString "bind"),(.ofString "Cells.bind"),ZdS,.stmts Zdo,ZcS,3,[],aN,aN,aN,aS "clausemill.store" 482,none,aR 299,aN,0⟩),#[]⟩
@[reducible] noncomputable def ZiW (P:Params):Obj:=⟨aT "code",none,.fields #[aS "globalise" 598,aS "Cells.globalise" 599,aS "/claim/cut.py" 600,aI 195 0,aI 2 0,aI 0 0,aI 0 0,aI 3 0,aR 308,aB true,aI 181 0,aR 309,aN,aR 310,aR 311,aR 312,aI 604 0,aI 195 0,aS "/claim/cut.py" 605],#[]⟩
@[reducible] noncomputable def ZiV (P:Params):Obj:=⟨aT "function",none,(.func ⟨(.ofString "globalise"),(.ofString "Cells.globalise"),ZdR,.stmts Zdn,ZcR,3,[],aN,aN,aN,aS "clausemill.store" 482,none,aR 313,aN,0⟩),#[]⟩
@[reducible] noncomputable def ZiU (P:Params):Obj:=⟨aT "code",none,.fields #[aS "is_compound" 631,aS "Cells.is_compound" 632,aS "/claim/cut.py" 633,aI 212 0,aI 2 0,aI 0 0,aI 0 0,aI 3 0,aR 336,aB true,aI 181 0,aR 337,aN,aR 338,aR 339,aR 340,aI 636 0,aI 212 0,aS "/claim/cut.py" 637],#[]⟩
@[reducible] noncomputable def ZiT (P:Params):Obj:=⟨aT "function",none,(.func ⟨(.ofString "is_compound"),(.ofString "Cells.is_compound"),ZaR,.stmts ZaO,ZaL,3,[],aN,aN,aN,aS "clausemill.store" 482,none,aR 341,aN,0⟩),#[]⟩
@[reducible] noncomputable def ZiS (P:Params):Obj:=⟨aT "dict",none,(.dict #[de P "__module__" 511 (aS "clausemill.store" 482),de P "__firstlineno__" 515 (aI 117 514),de P "__init__" 525 (aR 251),de P "push" 534 (aR 258),de P "new_var" 542 (aR 265),de P "reserve" 552 (aR 272),de P "trim" 560 (aR 279),de P "deref" 570 (aR 286),de P "is_unbound" 578 (aR 293),de P "bind" 588 (aR 300),de P "bind_pair" 597 (aR 307),de P "globalise" 606 (aR 314),de P "mark" 613 (aR 321),de P "undo_to" 621 (aR 328),de P "stack_put" 630 (aR 335),de P "is_compound" 638 (aR 342),de P "functor_of" 647 (aR 349),de P "width" 656 (aR 356),de P "base" 664 (aR 363),de P "arg" 673 (aR 370),de P "new_block" 682 (aR 377),de P "__static_attributes__" 690 (aR 378),de P "__dict__" 692 (aR 381),de P "__weakref__" 694 (aR 382),de P "__doc__" 695 aN] 4),#[]⟩
@[reducible] noncomputable def Zcg (P:Params):Obj:=⟨aT "type",none,(.cls ⟨(.ofString "Cells"),[aT "object"],[aR 380,aT "object"],379,(.ofString "Cells"),true,[],[aR 430],false,none,false⟩),#[none,none,some (aS "Cells" 504),some (aS "Cells" 512),some (aF "object.__new__"),some (aB true)]⟩
@[reducible] noncomputable def ZiR (P:Params):Obj:=⟨aT "code",none,.fields #[aS "put_term" 736,aS "Store.put_term" 737,aS "/claim/cut.py" 738,aI 258 0,aI 3 0,aI 0 0,aI 0 0,aI 3 0,aR 414,aB true,aI 181 0,aR 415,aN,aR 416,aR 417,aR 418,aI 751 0,aI 258 0,aS "/claim/cut.py" 752],#[]⟩
@[reducible] noncomputable def ZiQ (P:Params):Obj:=⟨aT "function",none,(.func ⟨(.ofString "put_term"),(.ofString "Store.put_term"),ZdQ,.stmts Zdm,ZcQ,3,[],aN,aN,aN,aS "clausemill.store" 482,none,aR 419,aN,0⟩),#[]⟩
@[reducible] noncomputable def ZiP (P:Params):Obj:=⟨aT "code",none,.fields #[aS "take_term" 754,aS "Store.take_term" 755,aS "/claim/cut.py" 756,aI 295 0,aI 3 0,aI 0 0,aI 0 0,aI 3 0,aR 421,aB true,aI 181 0,aR 422,aN,aR 423,aR 424,aR 425,aI 770 0,aI 295 0,aS "/claim/cut.py" 771],#[]⟩
@[reducible] noncomputable def ZiO (P:Params):Obj:=⟨aT "function",none,(.func ⟨(.ofString "take_term"),(.ofString "Store.take_term"),ZdP,.stmts Zdl,ZcP,3,[],aN,aN,aN,aS "clausemill.store" 482,none,aR 426,aN,0⟩),#[]⟩
@[reducible] noncomputable def ZiN (P:Params):Obj:=⟨aT "dict",none,(.dict #[de P "__module__" 705 (aS "clausemill.store" 482),de P "__firstlineno__" 709 (aI 247 708),de P "new_struct" 718 (aR 398),de P "build_list" 727 (aR 406),de P "list_cells" 735 (aR 413),de P "put_term" 753 (aR 420),de P "take_term" 772 (aR 427),de P "__static_attributes__" 773 (aR 428),de P "__doc__" 774 aN] 2),#[]⟩
@[reducible] noncomputable def ZiM (P:Params):Obj:=⟨aT "type",none,(.cls ⟨(.ofString "Store"),[aR 380],[aR 430,aR 380,aT "object"],429,(.ofString "Store"),true,[],[],false,none,false⟩),#[some (aR 385),none,some (aS "Store" 698),some (aS "Store" 706),some (aF "object.__new__"),some (aB true)]⟩
@[reducible] noncomputable def ZiL (P:Params):Obj:=⟨aT "code",none,.fields #[aS "__init__" 794,aS "Streams.__init__" 795,aS "/claim/cut.py" 796,aI 335 0,aI 1 0,aI 0 0,aI 0 0,aI 3 0,aR 440,aB true,aI 181 0,aR 441,aN,aR 442,aR 443,aR 444,aI 798 0,aI 335 0,aS "/claim/cut.py" 799],#[]⟩
@[reducible] noncomputable def ZiK (P:Params):Obj:=⟨aT "function",none,(.func ⟨(.ofString "__init__"),(.ofString "Streams.__init__"),ZdO,.stmts Zdk,ZcO,3,[],aN,aN,aN,aS "clausemill.streams" 777,none,aR 445,aN,0⟩),#[]⟩
@[reducible] noncomputable def ZiJ (P:Params):Obj:=⟨aT "code",none,.fields #[aS "fresh" 801,aS "Streams.fresh" 802,aS "/claim/cut.py" 803,aI 346 0,aI 1 0,aI 0 0,aI 0 0,aI 3 0,aR 447,aB true,aI 181 0,aR 448,aN,aR 449,aR 450,aR 451,aI 806 0,aI 346 0,aS "/claim/cut.py" 807],#[]⟩
@[reducible] noncomputable def ZiI (P:Params):Obj:=⟨aT "function",none,(.func ⟨(.ofString "fresh"),(.ofString "Streams.fresh"),ZdN,.stmts Zdj,ZcN,3,[],aN,aN,aN,aS "clausemill.streams" 777,none,aR 452,aN,0⟩),#[]⟩
@[reducible] noncomputable def ZiH (P:Params):Obj:=⟨aT "code",none,.fields #[aS "open_input" 809,aS "Streams.open_input" 810,aS "/claim/cut.py" 811,aI 351 0,aI 2 0,aI 0 0,aI 0 0,aI 3 0,aR 454,aB true,aI 181 0,aR 455,aN,aR 456,aR 457,aR 458,aI 815 0,aI 351 0,aS "/claim/cut.py" 816],#[]⟩
@[reducible] noncomputable def ZiG (P:Params):Obj:=⟨aT "function",none,(.func ⟨(.ofString "open_input"),(.ofString "Streams.open_input"),ZdM,.stmts Zdi,ZcM,3,[],aN,aN,aN,aS "clausemill.streams" 777,none,aR 459,aN,0⟩),#[]⟩
@[reducible] noncomputable def ZiF (P:Params):Obj:=⟨aT "code",none,.fields #[aS "next_code" 884,aS "Streams.next_code" 885,aS "/claim/cut.py" 886,aI 394 0,aI 2 0,aI 0 0,aI 0 0,aI 3 0,aR 517,aB true,aI 181 0,aR 518,aN,aR 519,aR 520,aR 521,aI 891 0,aI 394 0,aS "/claim/cut.py" 892],#[]⟩
@[reducible] noncomputable def ZiE (P:Params):Obj:=⟨aT "function",none,(.func ⟨(.ofString "next_code"),(.ofString "Streams.next_code"),ZaQ,.stmts ZaN,ZaK,3,[],aN,aN,aN,aS "clausemill.streams" 777,none,aR 522,aN,0⟩),#[]⟩
@[reducible] noncomputable def ZiD (P:Params):Obj:=⟨aT "code",none,.fields #[aS "at_end" 894,aS "Streams.at_end" 895,aS "/claim/cut.py" 896,aI 400 0,aI 2 0,aI 0 0,aI 0 0,aI 3 0,aR 524,aB true,aI 181 0,aR 525,aN,aR 526,aR 527,aR 528,aI 901 0,aI 400 0,aS "/claim/cut.py" 902],#[]⟩
@[reducible] noncomputable def ZiC (P:Params):Obj:=⟨aT "function",none,(.func ⟨(.ofString "at_end"),(.ofString "Streams.at_end"),ZaP,.stmts ZaM,ZaJ,3,[],aN,aN,aN,aS "clausemill.streams" 777,none,aR 529,aN,0⟩),#[]⟩
@[reducible] noncomputable def ZiB (P:Params):Obj:=⟨aT "dict",none,(.dict #[de P "__module__" 789 (aS "clausemill.streams" 777),de P "__firstlineno__" 793 (aI 333 792),de P "__init__" 800 (aR 446),de P "fresh" 808 (aR 453),de P "open_input" 817 (aR 460),de P "open_output" 824 (aR 467),de P "open_file" 833 (aR 474),de P "close" 843 (aR 481),de P "put" 851 (aR 488),de P "put_text" 859 (aR 495),de P "write_text" 868 (aR 502),de P "get" 876 (aR 509),de P "peek" 883 (aR 516),de P "next_code" 893 (aR 523),de P "at_end" 903 (aR 530),de P "output_text" 912 (aR 538),de P "__static_attributes__" 922 (aR 539),de P "__dict__" 924 (aR 542),de P "__weakref__" 926 (aR 543),de P "__doc__" 927 aN] 4),#[]⟩
@[reducible] noncomputable def ZiA (P:Params):Obj:=⟨aT "type",none,(.cls ⟨(.ofString "Streams"),[aT "object"],[aR 541,aT "object"],540,(.ofString "Streams"),true,[],[],false,none,false⟩),#[none,none,some (aS "Streams" 782),some (aS "Streams" 790),some (aF "object.__new__"),some (aB true)]⟩
@[reducible] noncomputable def Ziz (P:Params):Obj:=⟨aT "code",none,.fields #[aS "stream_term" 932,aS "stream_term" 933,aS "/claim/cut.py" 934,aI 407 0,aI 2 0,aI 0 0,aI 0 0,aI 3 0,aR 546,aB true,aI 181 0,aR 547,aN,aR 548,aR 549,aR 550,aI 937 0,aI 407 0,aS "/claim/cut.py" 938],#[]⟩
@[reducible] noncomputable def Ziy (P:Params):Obj:=⟨aT "function",none,(.func ⟨(.ofString "stream_term"),(.ofString "stream_term"),Zll,.stmts ZkL,Zka,3,[],aN,aN,aN,aS "clausemill.streamargs" 930,none,aR 551,aN,0⟩),#[]⟩
@[reducible] noncomputable def Zix (P:Params):Obj:=⟨aT "code",none,.fields #[aS "check_not_past" 942,aS "check_not_past" 943,aS "/claim/cut.py" 944,aI 410 0,aI 2 0,aI 0 0,aI 0 0,aI 3 0,aR 553,aB true,aI 181 0,aR 554,aN,aR 555,aR 556,aR 557,aI 949 0,aI 410 0,aS "/claim/cut.py" 950],#[]⟩
@[reducible] noncomputable def Ziw (P:Params):Obj:=⟨aT "function",none,(.func ⟨(.ofString "check_not_past"),(.ofString "check_not_past"),Zlk,.stmts ZkK,Zj9,3,[],aN,aN,aN,aS "clausemill.preds_read" 940,none,aR 558,aN,0⟩),#[]⟩
@[reducible] noncomputable def Ziv (P:Params):Obj:=⟨aT "code",none,.fields #[aS "input_code" 952,aS "input_code" 953,aS "/claim/cut.py" 954,aI 416 0,aI 3 0,aI 0 0,aI 0 0,aI 3 0,aR 560,aB true,aI 181 0,aR 561,aN,aR 562,aR 563,aR 564,aI 961 0,aI 416 0,aS "/claim/cut.py" 962],#[]⟩
@[reducible] noncomputable def Ziu (P:Params):Obj:=⟨aT "function",none,(.func ⟨(.ofString "input_code"),(.ofString "input_code"),Zlj,.stmts ZkJ,Zj8,3,[],aN,aN,aN,aS "clausemill.preds_read" 940,none,aR 565,aN,0⟩),#[]⟩
@[reducible] noncomputable def Zit (P:Params):Obj:=⟨aT "code",none,.fields #[aS "check_character_target" 964,aS "check_character_target" 965,aS "/claim/cut.py" 966,aI 429 0,aI 2 0,aI 0 0,aI 0 0,aI 3 0,aR 567,aB true,aI 181 0,aR 568,aN,aR 569,aR 570,aR 571,aI 969 0,aI 429 0,aS "/claim/cut.py" 970],#[]⟩
@[reducible] noncomputable def Zis (P:Params):Obj:=⟨aT "function",none,(.func ⟨(.ofString "check_character_target"),(.ofString "check_character_target"),Zli,.stmts ZkI,Zj7,3,[],aN,aN,aN,aS "clausemill.preds_read" 940,none,aR 572,aN,0⟩),#[]⟩
@[reducible] noncomputable def Zir (P:Params):Obj:=⟨aT "code",none,.fields #[aS "check_code_target" 972,aS "check_code_target" 973,aS "/claim/cut.py" 974,aI 436 0,aI 2 0,aI 0 0,aI 0 0,aI 3 0,aR 574,aB true,aI 181 0,aR 575,aN,aR 576,aR 577,aR 578,aI 977 0,aI 436 0,aS "/claim/cut.py" 978],#[]⟩
@[reducible] noncomputable def Ziq (P:Params):Obj:=⟨aT "function",none,(.func ⟨(.ofString "check_code_target"),(.ofString "check_code_target"),Zlh,.stmts ZkH,Zj6,3,[],aN,aN,aN,aS "clausemill.preds_read" 940,none,aR 579,aN,0⟩),#[]⟩
@[reducible] noncomputable def Zip (P:Params):Obj:=⟨aT "code",none,.fields #[aS "character_input" 980,aS "character_input" 981,aS "/claim/cut.py" 982,aI 443 0,aI 4 0,aI 0 0,aI 0 0,aI 3 0,aR 581,aB true,aI 181 0,aR 582,aN,aR 583,aR 584,aR 585,aI 988 0,aI 443 0,aS "/claim/cut.py" 989],#[]⟩
@[reducible] noncomputable def Zio (P:Params):Obj:=⟨aT "function",none,(.func ⟨(.ofString "character_input"),(.ofString "character_input"),Zlg,.stmts ZkG,Zj5,3,[],aN,aN,aN,aS "clausemill.preds_read" 940,none,aR 586,aN,0⟩),#[]⟩
@[reducible] noncomputable def Zin (P:Params):Obj:=⟨aT "code",none,.fields #[aS "code_input" 991,aS "code_input" 992,aS "/claim/cut.py" 993,aI 449 0,aI 4 0,aI 0 0,aI 0 0,aI 3 0,aR 588,aB true,aI 181 0,aR 589,aN,aR 590,aR 591,aR 592,aI 999 0,aI 449 0,aS "/claim/cut.py" 1000],#[]⟩
@[reducible] noncomputable def Zim (P:Params):Obj:=⟨aT "function",none,(.func ⟨(.ofString "code_input"),(.ofString "code_input"),Zlf,.stmts ZkF,Zj4,3,[],aN,aN,aN,aS "clausemill.preds_read" 940,none,aR 593,aN,0⟩),#[]⟩
@[reducible] noncomputable def Zil (P:Params):Obj:=⟨aT "code",none,.fields #[aS "get_character" 1002,aS "get_character" 1003,aS "/claim/cut.py" 1004,aI 453 0,aI 3 0,aI 0 0,aI 0 0,aI 3 0,aR 595,aB true,aI 181 0,aR 596,aN,aR 597,aR 598,aR 599,aI 1008 0,aI 453 0,aS "/claim/cut.py" 1009],#[]⟩
@[reducible] noncomputable def Zik (P:Params):Obj:=⟨aT "function",none,(.func ⟨(.ofString "get_character"),(.ofString "get_character"),Zle,.stmts ZkE,Zj3,3,[],aN,aN,aN,aS "clausemill.preds_read" 940,none,aR 600,aN,0⟩),#[]⟩
@[reducible] noncomputable def Zij (P:Params):Obj:=⟨aT "code",none,.fields #[aS "peek_character" 1011,aS "peek_character" 1012,aS "/claim/cut.py" 1013,aI 455 0,aI 3 0,aI 0 0,aI 0 0,aI 3 0,aR 602,aB true,aI 181 0,aR 603,aN,aR 604,aR 605,aR 606,aI 1017 0,aI 455 0,aS "/claim/cut.py" 1018],#[]⟩
@[reducible] noncomputable def Zii (P:Params):Obj:=⟨aT "function",none,(.func ⟨(.ofString "peek_character"),(.ofString "peek_character"),Zld,.stmts ZkD,Zj2,3,[],aN,aN,aN,aS "clausemill.preds_read" 940,none,aR 607,aN,0⟩),#[]⟩
@[reducible] noncomputable def Zih (P:Params):Obj:=⟨aT "code",none,.fields #[aS "get_character_code" 1020,aS "get_character_code" 1021,aS "/claim/cut.py" 1022,aI 457 0,aI 3 0,aI 0 0,aI 0 0,aI 3 0,aR 609,aB true,aI 181 0,aR 610,aN,aR 611,aR 612,aR 613,aI 1026 0,aI 457 0,aS "/claim/cut.py" 1027],#[]⟩
@[reducible] noncomputable def Zig (P:Params):Obj:=⟨aT "function",none,(.func ⟨(.ofString "get_character_code"),(.ofString "get_character_code"),Zlc,.stmts ZkC,Zj1,3,[],aN,aN,aN,aS "clausemill.preds_read" 940,none,aR 614,aN,0⟩),#[]⟩
@[reducible] noncomputable def Zif (P:Params):Obj:=⟨aT "code",none,.fields #[aS "peek_character_code" 1029,aS "peek_character_code" 1030,aS "/claim/cut.py" 1031,aI 459 0,aI 3 0,aI 0 0,aI 0 0,aI 3 0,aR 616,aB true,aI 181 0,aR 617,aN,aR 618,aR 619,aR 620,aI 1035 0,aI 459 0,aS "/claim/cut.py" 1036],#[]⟩
@[reducible] noncomputable def Zie (P:Params):Obj:=⟨aT "function",none,(.func ⟨(.ofString "peek_character_code"),(.ofString "peek_character_code"),Zlb,.stmts ZkB,Zj0,3,[],aN,aN,aN,aS "clausemill.preds_read" 940,none,aR 621,aN,0⟩),#[]⟩
@[reducible] noncomputable def Zid (P:Params):Obj:=⟨aT "code",none,.fields #[aS "at_end_of_input" 1038,aS "at_end_of_input" 1039,aS "/claim/cut.py" 1040,aI 461 0,aI 3 0,aI 0 0,aI 0 0,aI 3 0,aR 623,aB true,aI 181 0,aR 624,aN,aR 625,aR 626,aR 627,aI 1044 0,aI 461 0,aS "/claim/cut.py" 1045],#[]⟩
@[reducible] noncomputable def Zic (P:Params):Obj:=⟨aT "function",none,(.func ⟨(.ofString "at_end_of_input"),(.ofString "at_end_of_input"),Zla,.stmts ZkA,ZjZ,3,[],aN,aN,aN,aS "clausemill.preds_read" 940,none,aR 628,aN,0⟩),#[]⟩
@[reducible] noncomputable def Zib (P:Params):Obj:=⟨aT "tuple",none,(.seq #[aS "fx" 1051,aS "fy" 1052] 0),#[]⟩
@[reducible] noncomputable def Zia (P:Params):Obj:=⟨aT "tuple",none,(.seq #[aS "xfx" 1054,aS "xfy" 1055,aS "yfx" 1056] 0),#[]⟩
@[reducible] noncomputable def Zh9 (P:Params):Obj:=⟨aT "tuple",none,(.seq #[aS "xf" 1058,aS "yf" 1059] 0),#[]⟩
@[reducible] noncomputable def Zh8 (P:Params):Obj:=⟨aT "code",none,.fields #[aS "flag_rows" 1067,aS "flag_rows" 1068,aS "/claim/cut.py" 1069,aI 470 0,aI 0 0,aI 0 0,aI 0 0,aI 3 0,aR 640,aB true,aI 181 0,aR 641,aN,aR 642,aR 643,aR 644,aI 1070 0,aI 470 0,aS "/claim/cut.py" 1071],#[]⟩
@[reducible] noncomputable def Zh7 (P:Params):Obj:=⟨aT "function",none,(.func ⟨(.ofString "flag_rows"),(.ofString "flag_rows"),Zk9,.stmts Zkz,ZjY,3,[],aN,aN,aN,aS "clausemill.operators" 1047,none,aR 645,aN,0⟩),#[]⟩
@[reducible] noncomputable def Zh6 (P:Params):Obj:=⟨aT "code",none,.fields #[aS "fixity" 1073,aS "fixity" 1074,aS "/claim/cut.py" 1075,aI 472 0,aI 1 0,aI 0 0,aI 0 0,aI 3 0,aR 647,aB true,aI 181 0,aR 648,aN,aR 649,aR 650,aR 651,aI 1077 0,aI 472 0,aS "/claim/cut.py" 1078],#[]⟩
@[reducible] noncomputable def Zh5 (P:Params):Obj:=⟨aT "function",none,(.func ⟨(.ofString "fixity"),(.ofString "fixity"),Zk8,.stmts Zky,ZjX,3,[],aN,aN,aN,aS "clausemill.operators" 1047,none,aR 652,aN,0⟩),#[]⟩
@[reducible] noncomputable def Zh4 (P:Params):Obj:=⟨aT "tuple",none,(.seq #[aB true] 0),#[]⟩
@[reducible] noncomputable def Zh3 (P:Params):Obj:=⟨aT "code",none,.fields #[aS "__init__" 1092,aS "OperatorTable.__init__" 1093,aS "/claim/cut.py" 1094,aI 482 0,aI 3 0,aI 0 0,aI 0 0,aI 3 0,aR 662,aB true,aI 181 0,aR 663,aN,aR 664,aR 665,aR 666,aI 1102 0,aI 482 0,aS "/claim/cut.py" 1103],#[]⟩
@[reducible] noncomputable def Zh2 (P:Params):Obj:=⟨aT "function",none,(.func ⟨(.ofString "__init__"),(.ofString "OperatorTable.__init__"),ZdL,.stmts Zdh,ZcL,3,[],aR 661,aN,aN,aS "clausemill.operators" 1047,none,aR 667,aN,0⟩),#[]⟩
@[reducible] noncomputable def Zh1 (P:Params):Obj:=⟨aT "code",none,.fields #[aS "table_of" 1137,aS "OperatorTable.table_of" 1138,aS "/claim/cut.py" 1139,aI 505 0,aI 2 0,aI 0 0,aI 0 0,aI 3 0,aR 697,aB true,aI 181 0,aR 698,aN,aR 699,aR 700,aR 701,aI 1143 0,aI 505 0,aS "/claim/cut.py" 1144],#[]⟩
@[reducible] noncomputable def Zh0 (P:Params):Obj:=⟨aT "function",none,(.func ⟨(.ofString "table_of"),(.ofString "OperatorTable.table_of"),ZdK,.stmts Zdg,ZcK,3,[],aN,aN,aN,aS "clausemill.operators" 1047,none,aR 702,aN,0⟩),#[]⟩
@[reducible] noncomputable def ZhZ (P:Params):Obj:=⟨aT "code",none,.fields #[aS "add" 1146,aS "OperatorTable.add" 1147,aS "/claim/cut.py" 1148,aI 513 0,aI 4 0,aI 0 0,aI 0 0,aI 3 0,aR 704,aB true,aI 181 0,aR 705,aN,aR 706,aR 707,aR 708,aI 1154 0,aI 513 0,aS "/claim/cut.py" 1155],#[]⟩
@[reducible] noncomputable def ZhY (P:Params):Obj:=⟨aT "function",none,(.func ⟨(.ofString "add"),(.ofString "OperatorTable.add"),ZdJ,.stmts Zdf,ZcJ,3,[],aN,aN,aN,aS "clausemill.operators" 1047,none,aR 709,aN,0⟩),#[]⟩
@[reducible] noncomputable def ZhX (P:Params):Obj:=⟨aT "dict",none,(.dict #[de P "__module__" 1087 (aS "clausemill.operators" 1047),de P "__firstlineno__" 1091 (aI 480 1090),de P "__init__" 1104 (aR 668),de P "prefix" 1112 (aR 675),de P "infix" 1120 (aR 682),de P "postfix" 1128 (aR 689),de P "is_operator" 1136 (aR 696),de P "table_of" 1145 (aR 703),de P "add" 1156 (aR 710),de P "rows" 1167 (aR 717),de P "__static_attributes__" 1172 (aR 718),de P "__dict__" 1174 (aR 721),de P "__weakref__" 1176 (aR 722),de P "__doc__" 1177 aN] 4),#[]⟩
@[reducible] noncomputable def Zaw (P:Params):Obj:=⟨aT "type",none,(.cls ⟨(.ofString "OperatorTable"),[aT "object"],[aR 720,aT "object"],719,(.ofString "OperatorTable"),true,[],[aR 769],false,none,false⟩),#[none,none,some (aS "OperatorTable" 1080),some (aS "OperatorTable" 1088),some (aF "object.__new__"),some (aB true)]⟩
@[reducible] noncomputable def ZhW (P:Params):Obj:=⟨aT "dict",none,(.dict #[de P "__module__" 1187 (aS "clausemill.operators" 1047),de P "__firstlineno__" 1191 (aI 526 1190),de P "declare" 1201 (aR 738),de P "names_of" 1209 (aR 745),de P "check_instantiated" 1220 (aR 752),de P "check_types" 1231 (aR 759),de P "check_permission" 1241 (aR 766),de P "__static_attributes__" 1242 (aR 767),de P "__doc__" 1243 aN] 2),#[]⟩
@[reducible] noncomputable def ZhV (P:Params):Obj:=⟨aT "type",none,(.cls ⟨(.ofString "Operators"),[aR 720],[aR 769,aR 720,aT "object"],768,(.ofString "Operators"),true,[],[],false,none,false⟩),#[some (aR 725),none,some (aS "Operators" 1180),some (aS "Operators" 1188),some (aF "object.__new__"),some (aB true)]⟩
@[reducible] noncomputable def ZhU (P:Params):Obj:=⟨aT "code",none,.fields #[aS "__init__" 1258,aS "Flags.__init__" 1259,aS "/claim/cut.py" 1260,aI 544 0,aI 2 0,aI 0 0,aI 0 0,aI 3 0,aR 779,aB true,aI 181 0,aR 780,aN,aR 781,aR 782,aR 783,aI 1267 0,aI 544 0,aS "/claim/cut.py" 1268],#[]⟩
@[reducible] noncomputable def ZhT (P:Params):Obj:=⟨aT "function",none,(.func ⟨(.ofString "__init__"),(.ofString "Flags.__init__"),ZdI,.stmts Gm,Yx,3,[],aN,aN,aN,aS "clausemill.operators" 1047,none,aR 784,aN,0⟩),#[]⟩
@[reducible] noncomputable def ZhS (P:Params):Obj:=⟨aT "dict",none,(.dict #[de P "__module__" 1253 (aS "clausemill.operators" 1047),de P "__firstlineno__" 1257 (aI 542 1256),de P "__init__" 1269 (aR 785),de P "value" 1277 (aR 792),de P "is_value" 1286 (aR 799),de P "put" 1295 (aR 806),de P "rows" 1304 (aR 813),de P "set" 1316 (aR 820),de P "__static_attributes__" 1321 (aR 821),de P "__dict__" 1323 (aR 824),de P "__weakref__" 1325 (aR 825),de P "__doc__" 1326 aN] 4),#[]⟩
@[reducible] noncomputable def ZhR (P:Params):Obj:=⟨aT "type",none,(.cls ⟨(.ofString "Flags"),[aT "object"],[aR 823,aT "object"],822,(.ofString "Flags"),true,[],[],false,none,false⟩),#[none,none,some (aS "Flags" 1246),some (aS "Flags" 1254),some (aF "object.__new__"),some (aB true)]⟩
@[reducible] noncomputable def ZhQ (P:Params):Obj:=⟨aT "code",none,.fields #[aS "__init__" 1343,aS "PairSet.__init__" 1344,aS "/claim/cut.py" 1345,aI 590 0,aI 2 0,aI 0 0,aI 0 0,aI 3 0,aR 835,aB true,aI 181 0,aR 836,aN,aR 837,aR 838,aR 839,aI 1348 0,aI 590 0,aS "/claim/cut.py" 1349],#[]⟩
@[reducible] noncomputable def ZhP (P:Params):Obj:=⟨aT "function",none,(.func ⟨(.ofString "__init__"),(.ofString "PairSet.__init__"),ZdH,.stmts Zde,ZcI,3,[],aN,aN,aN,aS "clausemill.unify" 1329,none,aR 840,aN,0⟩),#[]⟩
@[reducible] noncomputable def ZhO (P:Params):Obj:=⟨aT "dict",none,(.dict #[de P "__module__" 1338 (aS "clausemill.unify" 1329),de P "__firstlineno__" 1342 (aI 588 1341),de P "__init__" 1350 (aR 841),de P "add" 1360 (aR 848),de P "__static_attributes__" 1363 (aR 849),de P "__dict__" 1365 (aR 852),de P "__weakref__" 1367 (aR 853),de P "__doc__" 1368 aN] 4),#[]⟩
@[reducible] noncomputable def ZhN (P:Params):Obj:=⟨aT "type",none,(.cls ⟨(.ofString "PairSet"),[aT "object"],[aR 851,aT "object"],850,(.ofString "PairSet"),true,[],[],false,none,false⟩),#[none,none,some (aS "PairSet" 1331),some (aS "PairSet" 1339),some (aF "object.__new__"),some (aB true)]⟩
@[reducible] noncomputable def ZhM (P:Params):Obj:=⟨aT "code",none,.fields #[aS "is_variable" 1404,aS "is_variable" 1405,aS "/claim/cut.py" 1406,aI 615 0,aI 1 0,aI 0 0,aI 0 0,aI 3 0,aR 877,aB true,aI 181 0,aR 878,aN,aR 879,aR 880,aR 881,aI 1408 0,aI 615 0,aS "/claim/cut.py" 1409],#[]⟩
@[reducible] noncomputable def ZhL (P:Params):Obj:=⟨aT "function",none,(.func ⟨(.ofString "is_variable"),(.ofString "is_variable"),Zk7,.stmts Zkx,ZjW,3,[],aN,aN,aN,aS "clausemill.unify" 1329,none,aR 882,aN,0⟩),#[]⟩
@[reducible] noncomputable def ZhK (P:Params):Obj:=⟨aT "code",none,.fields #[aS "unify" 1411,aS "unify" 1412,aS "/claim/cut.py" 1413,aI 617 0,aI 4 0,aI 0 0,aI 0 0,aI 3 0,aR 884,aB true,aI 181 0,aR 885,aN,aR 886,aR 887,aR 888,aI 1422 0,aI 617 0,aS "/claim/cut.py" 1423],#[]⟩
@[reducible] noncomputable def ZhJ (P:Params):Obj:=⟨aT "function",none,(.func ⟨(.ofString "unify"),(.ofString "unify"),Zk6,.stmts Zkw,ZjV,3,[],aN,aN,aN,aS "clausemill.unify" 1329,none,aR 889,aN,0⟩),#[]⟩
@[reducible] noncomputable def ZhI (P:Params):Obj:=⟨aT "code",none,.fields #[aS "bind_checked" 1426,aS "bind_checked" 1427,aS "/claim/cut.py" 1428,aI 641 0,aI 4 0,aI 0 0,aI 0 0,aI 3 0,aR 891,aB true,aI 181 0,aR 892,aN,aR 893,aR 894,aR 895,aI 1433 0,aI 641 0,aS "/claim/cut.py" 1434],#[]⟩
@[reducible] noncomputable def ZhH (P:Params):Obj:=⟨aT "function",none,(.func ⟨(.ofString "bind_checked"),(.ofString "bind_checked"),Zk5,.stmts Zkv,ZjU,3,[],aN,aN,aN,aS "clausemill.unify" 1329,none,aR 896,aN,0⟩),#[]⟩
@[reducible] noncomputable def ZhG (P:Params):Obj:=⟨aT "code",none,.fields #[aS "occurs_in" 1436,aS "occurs_in" 1437,aS "/claim/cut.py" 1438,aI 646 0,aI 3 0,aI 0 0,aI 0 0,aI 3 0,aR 898,aB true,aI 181 0,aR 899,aN,aR 900,aR 901,aR 902,aI 1444 0,aI 646 0,aS "/claim/cut.py" 1445],#[]⟩
@[reducible] noncomputable def ZhF (P:Params):Obj:=⟨aT "function",none,(.func ⟨(.ofString "occurs_in"),(.ofString "occurs_in"),Zk4,.stmts Zku,ZjT,3,[],aN,aN,aN,aS "clausemill.unify" 1329,none,aR 903,aN,0⟩),#[]⟩
@[reducible] noncomputable def ZhE (P:Params):Obj:=⟨aT "tuple",none,(.seq #[aI 100000 1465,aB true,aI 4096 1466] 0),#[]⟩
@[reducible] noncomputable def ZhD (P:Params):Obj:=⟨aT "code",none,.fields #[aS "__init__" 1467,aS "Areas.__init__" 1468,aS "/claim/cut.py" 1469,aI 667 0,aI 6 0,aI 0 0,aI 0 0,aI 3 0,aR 913,aB true,aI 181 0,aR 914,aN,aR 915,aR 916,aR 917,aI 1476 0,aI 667 0,aS "/claim/cut.py" 1477],#[]⟩
@[reducible] noncomputable def ZhC (P:Params):Obj:=⟨aT "function",none,(.func ⟨(.ofString "__init__"),(.ofString "Areas.__init__"),ZdG,.stmts Zdd,ZcH,3,[],aR 912,aN,aN,aS "clausemill.areas" 1447,none,aR 918,aN,0⟩),#[]⟩
@[reducible] noncomputable def ZhB (P:Params):Obj:=⟨aT "code",none,.fields #[aS "reset" 1479,aS "Areas.reset" 1480,aS "/claim/cut.py" 1481,aI 675 0,aI 1 0,aI 0 0,aI 0 0,aI 3 0,aR 920,aB true,aI 181 0,aR 921,aN,aR 922,aR 923,aR 924,aI 1483 0,aI 675 0,aS "/claim/cut.py" 1484],#[]⟩
@[reducible] noncomputable def ZhA (P:Params):Obj:=⟨aT "function",none,(.func ⟨(.ofString "reset"),(.ofString "Areas.reset"),ZdF,.stmts Zdc,ZcG,3,[],aN,aN,aN,aS "clausemill.areas" 1447,none,aR 925,aN,0⟩),#[]⟩
@[reducible] noncomputable def Zhz (P:Params):Obj:=⟨aT "code",none,.fields #[aS "set_x" 1486,aS "Areas.set_x" 1487,aS "/claim/cut.py" 1488,aI 690 0,aI 3 0,aI 0 0,aI 0 0,aI 3 0,aR 927,aB true,aI 181 0,aR 928,aN,aR 929,aR 930,aR 931,aI 1492 0,aI 690 0,aS "/claim/cut.py" 1493],#[]⟩
@[reducible] noncomputable def Zhy (P:Params):Obj:=⟨aT "function",none,(.func ⟨(.ofString "set_x"),(.ofString "Areas.set_x"),ZdE,.stmts Zdb,ZcF,3,[],aN,aN,aN,aS "clausemill.areas" 1447,none,aR 932,aN,0⟩),#[]⟩
@[reducible] noncomputable def Zhx (P:Params):Obj:=⟨aT "code",none,.fields #[aS "set_arguments" 1495,aS "Areas.set_arguments" 1496,aS "/claim/cut.py" 1497,aI 695 0,aI 2 0,aI 0 0,aI 0 0,aI 3 0,aR 934,aB true,aI 181 0,aR 935,aN,aR 936,aR 937,aR 938,aI 1502 0,aI 695 0,aS "/claim/cut.py" 1503],#[]⟩
@[reducible] noncomputable def Zhw (P:Params):Obj:=⟨aT "function",none,(.func ⟨(.ofString "set_arguments"),(.ofString "Areas.set_arguments"),ZdD,.stmts Zda,ZcE,3,[],aN,aN,aN,aS "clausemill.areas" 1447,none,aR 939,aN,0⟩),#[]⟩
@[reducible] noncomputable def Zhv (P:Params):Obj:=⟨aT "code",none,.fields #[aS "arg" 1505,aS "Areas.arg" 1506,aS "/claim/cut.py" 1507,aI 701 0,aI 2 0,aI 0 0,aI 0 0,aI 3 0,aR 941,aB true,aI 181 0,aR 942,aN,aR 943,aR 944,aR 945,aI 1510 0,aI 701 0,aS "/claim/cut.py" 1511],#[]⟩
@[reducible] noncomputable def Zhu (P:Params):Obj:=⟨aT "function",none,(.func ⟨(.ofString "arg"),(.ofString "Areas.arg"),ZdC,.stmts Zc9,ZcD,3,[],aN,aN,aN,aS "clausemill.areas" 1447,none,aR 946,aN,0⟩),#[]⟩
@[reducible] noncomputable def Zht (P:Params):Obj:=⟨aT "code",none,.fields #[aS "unify" 1513,aS "Areas.unify" 1514,aS "/claim/cut.py" 1515,aI 704 0,aI 3 0,aI 0 0,aI 0 0,aI 3 0,aR 948,aB true,aI 181 0,aR 949,aN,aR 950,aR 951,aR 952,aI 1519 0,aI 704 0,aS "/claim/cut.py" 1520],#[]⟩
@[reducible] noncomputable def Zhs (P:Params):Obj:=⟨aT "function",none,(.func ⟨(.ofString "unify"),(.ofString "Areas.unify"),ZdB,.stmts Zc8,ZcC,3,[],aN,aN,aN,aS "clausemill.areas" 1447,none,aR 953,aN,0⟩),#[]⟩
@[reducible] noncomputable def Zhr (P:Params):Obj:=⟨aT "code",none,.fields #[aS "take" 1522,aS "Areas.take" 1523,aS "/claim/cut.py" 1524,aI 707 0,aI 2 0,aI 0 0,aI 0 0,aI 3 0,aR 955,aB true,aI 181 0,aR 956,aN,aR 957,aR 958,aR 959,aI 1527 0,aI 707 0,aS "/claim/cut.py" 1528],#[]⟩
@[reducible] noncomputable def Zhq (P:Params):Obj:=⟨aT "function",none,(.func ⟨(.ofString "take"),(.ofString "Areas.take"),ZdA,.stmts Zc7,ZcB,3,[],aN,aN,aN,aS "clausemill.areas" 1447,none,aR 960,aN,0⟩),#[]⟩
@[reducible] noncomputable def ZfX (P:Params):Obj:=⟨aT "dict",none,(.dict #[de P "__module__" 1460 (aS "clausemill.areas" 1447),de P "__firstlineno__" 1464 (aI 665 1463),de P "__init__" 1478 (aR 919),de P "reset" 1485 (aR 926),de P "set_x" 1494 (aR 933),de P "set_arguments" 1504 (aR 940),de P "arg" 1512 (aR 947),de P "unify" 1521 (aR 954),de P "take" 1529 (aR 961),de P "put" 1537 (aR 968),de P "top" 1544 (aR 975),de P "push_environment" 1552 (aR 982),de P "pop_environment" 1559 (aR 989),de P "in_chain" 1567 (aR 996),de P "set_choice" 1575 (aR 1003),de P "push_choice" 1584 (aR 1010),de P "set_alternative" 1592 (aR 1017),de P "choice_part" 1600 (aR 1024),de P "restore_choice" 1607 (aR 1031),de P "pop_choice" 1614 (aR 1038),de P "cut_back" 1622 (aR 1045),de P "choices" 1629 (aR 1052),de P "environments" 1636 (aR 1059),de P "__static_attributes__" 1655 (aR 1060),de P "__dict__" 1657 (aR 1063),de P "__weakref__" 1659 (aR 1064),de P "__doc__" 1660 aN] 4),#[]⟩
@[reducible] noncomputable def ZfW (P:Params):Obj:=⟨aT "code",none,.fields #[aS "__init__" 1677,aS "Surroundings.__init__" 1678,aS "/claim/cut.py" 1679,aI 758 0,aI 4 0,aI 0 0,aI 0 0,aI 3 0,aR 1074,aB true,aI 181 0,aR 1075,aN,aR 1076,aR 1077,aR 1078,aI 1684 0,aI 758 0,aS "/claim/cut.py" 1685],#[]⟩
@[reducible] noncomputable def ZfV (P:Params):Obj:=⟨aT "function",none,(.func ⟨(.ofString "__init__"),(.ofString "Surroundings.__init__"),Zdz,.stmts Zc6,ZcA,3,[],aN,aN,aN,aS "clausemill.hosted" 1663,none,aR 1079,aN,0⟩),#[]⟩
@[reducible] noncomputable def ZfU (P:Params):Obj:=⟨aT "dict",none,(.dict #[de P "__module__" 1672 (aS "clausemill.hosted" 1663),de P "__firstlineno__" 1676 (aI 756 1675),de P "__init__" 1686 (aR 1080),de P "__static_attributes__" 1690 (aR 1081),de P "__dict__" 1692 (aR 1084),de P "__weakref__" 1694 (aR 1085),de P "__doc__" 1695 aN] 4),#[]⟩
@[reducible] noncomputable def ZfT (P:Params):Obj:=⟨aT "type",none,(.cls ⟨(.ofString "Surroundings"),[aT "object"],[aR 1083,aT "object"],1082,(.ofString "Surroundings"),true,[],[],false,none,false⟩),#[none,none,some (aS "Surroundings" 1665),some (aS "Surroundings" 1673),some (aF "object.__new__"),some (aB true)]⟩
@[reducible] noncomputable def G2 (P:Params):Obj:=⟨aT "type",none,(.cls ⟨(.ofString "Areas"),[aT "object"],[aR 1062,aT "object"],1061,(.ofString "Areas"),true,[],[aR 1104],false,none,false⟩),#[none,none,some (aS "Areas" 1453),some (aS "Areas" 1461),some (aF "object.__new__"),some (aB true)]⟩
@[reducible] noncomputable def ZfS (P:Params):Obj:=⟨aT "code",none,.fields #[aS "__init__" 1710,aS "HostedAreas.__init__" 1711,aS "/claim/cut.py" 1712,aI 764 0,aI 5 0,aI 0 0,aI 0 0,aI 3 0,aR 1095,aB true,aI 181 0,aR 1096,aN,aR 1097,aR 1098,aR 1099,aI 1718 0,aI 764 0,aS "/claim/cut.py" 1719],#[]⟩
@[reducible] noncomputable def ZfR (P:Params):Obj:=⟨aT "function",none,(.func ⟨(.ofString "__init__"),(.ofString "HostedAreas.__init__"),Zdy,.stmts Zc5,Zcz,3,[],aN,aN,aN,aS "clausemill.hosted" 1663,none,aR 1100,aN,0⟩),#[]⟩
@[reducible] noncomputable def ZfQ (P:Params):Obj:=⟨aT "dict",none,(.dict #[de P "__module__" 1705 (aS "clausemill.hosted" 1663),de P "__firstlineno__" 1709 (aI 762 1708),de P "__init__" 1720 (aR 1101),de P "__static_attributes__" 1722 (aR 1102),de P "__doc__" 1723 aN] 2),#[]⟩
@[reducible] noncomputable def ZfP (P:Params):Obj:=⟨aT "type",none,(.cls ⟨(.ofString "HostedAreas"),[aR 1062],[aR 1104,aR 1062,aT "object"],1103,(.ofString "HostedAreas"),true,[],[],false,none,false⟩),#[some (aR 1088),none,some (aS "HostedAreas" 1698),some (aS "HostedAreas" 1706),some (aF "object.__new__"),some (aB true)]⟩
@[reducible] noncomputable def ZfO (P:Params):Obj:=⟨aT "code",none,.fields #[aS "_law_pick" 1728,aS "_law_pick" 1729,aS "/claim/cut.py" 1730,aI 768 0,aI 2 0,aI 0 0,aI 0 0,aI 3 0,aR 1107,aB true,aI 181 0,aR 1108,aN,aR 1109,aR 1110,aR 1111,aI 1735 0,aI 768 0,aS "/claim/cut.py" 1736],#[]⟩
@[reducible] noncomputable def ZfN (P:Params):Obj:=⟨aT "function",none,(.func ⟨(.ofString "_law_pick"),(.ofString "_law_pick"),Zk3,.stmts Zkt,ZjS,3,[],aN,aN,aN,aS "law_ok0033_01" 1726,none,aR 1112,aN,0⟩),#[]⟩
@[reducible] noncomputable def ZfM (P:Params):Obj:=⟨aT "code",none,.fields #[aS "_law_error" 1738,aS "_law_error" 1739,aS "/claim/cut.py" 1740,aI 779 0,aI 3 0,aI 0 0,aI 0 0,aI 3 0,aR 1114,aB true,aI 181 0,aR 1115,aN,aN,aN,aR 1116,aI 1741 0,aI 779 0,aS "/claim/cut.py" 1742],#[]⟩
@[reducible] noncomputable def ZfL (P:Params):Obj:=⟨aT "function",none,(.func ⟨(.ofString "_law_error"),(.ofString "_law_error"),Zk2,.stmts Zks,ZjR,3,[],aN,aN,aN,aS "law_ok0033_01" 1726,none,aR 1117,aN,0⟩),#[]⟩
@[reducible] noncomputable def ZfK (P:Params):Obj:=⟨aT "code",none,.fields #[aS "_law_plain" 1744,aS "_law_plain" 1745,aS "/claim/cut.py" 1746,aI 785 0,aI 1 0,aI 0 0,aI 0 0,aI 3 0,aR 1119,aB true,aI 181 0,aR 1120,aN,aN,aN,aR 1121,aI 1747 0,aI 785 0,aS "/claim/cut.py" 1748],#[]⟩
@[reducible] noncomputable def ZfJ (P:Params):Obj:=⟨aT "function",none,(.func ⟨(.ofString "_law_plain"),(.ofString "_law_plain"),Zk1,.stmts Zkr,ZjQ,3,[],aN,aN,aN,aS "law_ok0033_01" 1726,none,aR 1122,aN,0⟩),#[]⟩
@[reducible] noncomputable def ZfI (P:Params):Obj:=⟨aT "code",none,.fields #[aS "_law_asked" 1750,aS "_law_asked" 1751,aS "/claim/cut.py" 1752,aI 789 0,aI 3 0,aI 0 0,aI 0 0,aI 3 0,aR 1124,aB true,aI 181 0,aR 1125,aN,aN,aN,aR 1126,aI 1753 0,aI 789 0,aS "/claim/cut.py" 1754],#[]⟩
@[reducible] noncomputable def ZfH (P:Params):Obj:=⟨aT "function",none,(.func ⟨(.ofString "_law_asked"),(.ofString "_law_asked"),Zk0,.stmts Zkq,ZjP,3,[],aN,aN,aN,aS "law_ok0033_01" 1726,none,aR 1127,aN,0⟩),#[]⟩
@[reducible] noncomputable def ZfG (P:Params):Obj:=⟨aT "code",none,.fields #[aS "_law_agrees" 1756,aS "_law_agrees" 1757,aS "/claim/cut.py" 1758,aI 799 0,aI 2 0,aI 0 0,aI 0 0,aI 3 0,aR 1129,aB true,aI 181 0,aR 1130,aN,aR 1131,aR 1132,aR 1133,aI 1761 0,aI 799 0,aS "/claim/cut.py" 1762],#[]⟩
@[reducible] noncomputable def ZfF (P:Params):Obj:=⟨aT "function",none,(.func ⟨(.ofString "_law_agrees"),(.ofString "_law_agrees"),ZkZ,.stmts Zkp,ZjO,3,[],aN,aN,aN,aS "law_ok0033_01" 1726,none,aR 1134,aN,0⟩),#[]⟩
@[reducible] noncomputable def Zfw (P:Params):Obj:=⟨aT "dict",none,(.dict #[de P "__name__" 165 (aS "law_ok0033_01" 1726),de P "__doc__" 166 aN,de P "__package__" 167 aN,de P "__loader__" 168 (aF "__main__.__loader__#opaque"),de P "__spec__" 169 aN,de P "__annotations__" 170 (aR 6),de P "__builtins__" 171 (aR 4),de P "__file__" 173 (aS "/claim/cut.py" 172),de P "__cached__" 174 aN,de P "_wall" 193 (aR 21),de P "ClausemillError" 215 (aR 31),de P "PrologError" 240 (aR 51),de P "A_NIL" 242 (aI 0 241),de P "A_COMMA" 244 (aI 7 243),de P "A_EOF" 246 (aI 24 245),de P "A_SYSTEM" 248 (aI 25 247),de P "F_DOT" 250 (aI 0 249),de P "F_PLUS" 252 (aI 14 251),de P "F_ERROR" 254 (aI 16 253),de P "fixed_atoms" 260 (aR 60),de P "fixed_functors" 266 (aR 67),de P "Symbols" 386 (aR 154),de P "atom" 395 (aR 165),de P "integer" 402 (aR 172),de P "struct" 410 (aR 179),de P "system_error" 417 (aR 186),de P "formal_of" 428 (aR 193),de P "instantiation_error" 435 (aR 200),de P "type_error" 444 (aR 207),de P "domain_error" 453 (aR 214),de P "permission_error" 463 (aR 221),de P "representation_error" 471 (aR 228),de P "resource_error" 479 (aR 235),de P "MAX_CODE" 481 (aI 1114111 480),de P "REF" 485 (aI 0 484),de P "SRF" 487 (aI 1 486),de P "STR" 489 (aI 2 488),de P "LIS" 491 (aI 3 490),de P "CON" 493 (aI 4 492),de P "INT" 495 (aI 5 494),de P "FUN" 497 (aI 6 496),de P "VOID" 499 (aR 236),de P "VISIT" 501 (aI 0 500),de P "BUILD" 503 (aI 1 502),de P "Cells" 697 (aR 380),de P "Store" 776 (aR 430),de P "END_CODE" 781 (aI (-1) 780),de P "Streams" 929 (aR 541),de P "stream_term" 939 (aR 552),de P "check_not_past" 951 (aR 559),de P "input_code" 963 (aR 566),de P "check_character_target" 971 (aR 573),de P "check_code_target" 979 (aR 580),de P "character_input" 990 (aR 587),de P "code_input" 1001 (aR 594),de P "get_character" 1010 (aR 601),de P "peek_character" 1019 (aR 608),de P "get_character_code" 1028 (aR 615),de P "peek_character_code" 1037 (aR 622),de P "at_end_of_input" 1046 (aR 629),de P "COMMA_PRIORITY" 1050 (aI 1000 1049),de P "PREFIX_TYPES" 1053 (aR 630),de P "INFIX_TYPES" 1057 (aR 631),de P "POSTFIX_TYPES" 1060 (aR 632),de P "standard_rows" 1066 (aR 639),de P "flag_rows" 1072 (aR 646),de P "fixity" 1079 (aR 653),de P "OperatorTable" 1179 (aR 720),de P "Operators" 1245 (aR 769),de P "Flags" 1328 (aR 823),de P "PairSet" 1370 (aR 851),de P "push_arguments" 1381 (aR 862),de P "push_pairs" 1394 (aR 869),de P "same_shape" 1403 (aR 876),de P "is_variable" 1410 (aR 883),de P "unify" 1424 (aR 890),de P "unify_unify" 1425 (aR 890),de P "bind_checked" 1435 (aR 897),de P "occurs_in" 1446 (aR 904),de P "READ" 1450 (aS "read" 1449),de P "EXTRA" 1452 (aI 8 1451),de P "Areas" 1662 (aR 1062),de P "Surroundings" 1697 (aR 1083),de P "HostedAreas" 1725 (aR 1104),de P "_law_pick" 1737 (aR 1113),de P "_law_error" 1743 (aR 1118),de P "_law_plain" 1749 (aR 1123),de P "_law_asked" 1755 (aR 1128),de P "_law_agrees" 1763 (aR 1135),de P "_law_target" 1773 (aR 1142),de P "_law_taken" 1790 (aR 1149),de P "_law_read" 1801 (aR 1156),de P "law" 1807 (aR 1161)] 93),#[]⟩
@[reducible] noncomputable def ZfE (P:Params):Obj:=⟨aT "code",none,.fields #[aS "_law_target" 1764,aS "_law_target" 1765,aS "/claim/cut.py" 1766,aI 801 0,aI 3 0,aI 0 0,aI 0 0,aI 3 0,aR 1136,aB true,aI 181 0,aR 1137,aN,aR 1138,aR 1139,aR 1140,aI 1771 0,aI 801 0,aS "/claim/cut.py" 1772],#[]⟩
@[reducible] noncomputable def ZfD (P:Params):Obj:=⟨aT "function",none,(.func ⟨(.ofString "_law_target"),(.ofString "_law_target"),ZkY,.stmts Zko,ZjN,3,[],aN,aN,aN,aS "law_ok0033_01" 1726,none,aR 1141,aN,0⟩),#[]⟩
@[reducible] noncomputable def ZfC (P:Params):Obj:=⟨aT "code",none,.fields #[aS "_law_taken" 1774,aS "_law_taken" 1775,aS "/claim/cut.py" 1776,aI 808 0,aI 6 0,aI 0 0,aI 0 0,aI 3 0,aR 1143,aB true,aI 181 0,aR 1144,aN,aR 1145,aR 1146,aR 1147,aI 1788 0,aI 808 0,aS "/claim/cut.py" 1789],#[]⟩
@[reducible] noncomputable def ZfB (P:Params):Obj:=⟨aT "function",none,(.func ⟨(.ofString "_law_taken"),(.ofString "_law_taken"),ZkX,.stmts U4,Z7,3,[],aN,aN,aN,aS "law_ok0033_01" 1726,none,aR 1148,aN,0⟩),#[]⟩
@[reducible] noncomputable def Zax (P:Params):Obj:=⟨aT "code",none,.fields #[aS "_law_read" 1791,aS "_law_read" 1792,aS "/claim/cut.py" 1793,aI 835 0,aI 2 0,aI 0 0,aI 0 0,aI 3 0,aR 1150,aB true,aI 181 0,aR 1151,aN,aR 1152,aR 1153,aR 1154,aI 1799 0,aI 835 0,aS "/claim/cut.py" 1800],#[]⟩
@[reducible] noncomputable def ZfA (P:Params):Obj:=⟨aT "function",none,(.func ⟨(.ofString "_law_read"),(.ofString "_law_read"),ZkW,.stmts Zc4,ZgI,3,[],aN,aN,aN,aS "law_ok0033_01" 1726,none,aR 1155,aN,0⟩),#[]⟩
@[reducible] noncomputable def Zfz (P:Params):Obj:=⟨aT "code",none,.fields #[aS "law" 1802,aS "law" 1803,aS "/claim/cut.py" 1804,aI 848 0,aI 1 0,aI 0 0,aI 0 0,aI 3 0,aR 1157,aB true,aI 181 0,aR 1158,aN,aN,aN,aR 1159,aI 1805 0,aI 848 0,aS "/claim/cut.py" 1806],#[]⟩
@[reducible] noncomputable def Zfy (P:Params):Obj:=⟨aT "function",none,(.func ⟨(.ofString "law"),(.ofString "law"),ZkV,.stmts We,Zu,3,[],aN,aN,aN,aS "law_ok0033_01" 1726,none,aR 1160,aN,0⟩),#[]⟩
noncomputable def pt (l:List Value):Obj:=⟨.type "tuple",none,.seq l.toArray 0,#[]⟩
noncomputable def pz:Obj:=⟨.type "tuple",none,.seq #[] 0,#[]⟩
noncomputable def z:Obj:=⟨.none,none,.fields #[],#[]⟩
noncomputable def fn (x y:String)(a:Arguments)(b:List Stmt)(s:Scope)(m:String)(t r:Nat):Obj:=⟨.type "function",none,.func ⟨.ofString x,.ofString y,a,.stmts b,s,3,[],.none,.none,.none,.str (.ofString m) t,none,.ref r,.none,0⟩,#[]⟩
noncomputable def fz (x y:String)(a:Arguments)(b:List Stmt)(s:Scope):Obj:=⟨.none,none,.func ⟨.ofString x,.ofString y,a,.stmts b,s,0,[],.none,.none,.none,.none,none,.none,.none,0⟩,#[]⟩
noncomputable def cd (x y:String)(t:Nat)(a b c d e:Int)(r:Nat)(q:Bool)(f:Int)(i:Nat)(v1 v2 v3 v4:Value)(g h:Int)(k:Nat):Obj:=⟨.type "code",none,.fields #[.str (.ofString x) t,.str (.ofString y) (t+1),.str (.ofString "/claim/cut.py") (t+2),.int a 0,.int b 0,.int c 0,.int d 0,.int e 0,.ref r,.bool q,.int f 0,.ref i,v1,v2,v3,v4,.int g 0,.int h 0,.str (.ofString "/claim/cut.py") k],#[]⟩
noncomputable def L (o:Obj):BT :=.node o .nil .nil
noncomputable def b0 (P:Params):Obj:=⟨aT "dict",none,(.dict #[de P "__name__" 1 (aS "builtins" 160),de P "__doc__" 2 (aF "builtins.__doc__:str#opaque"),de P "__package__" 3 (aF "builtins.__package__:str#opaque"),de P "__loader__" 4 (aF "builtins.__loader__:shared#opaque"),de P "__spec__" 5 (aF "builtins.__spec__#opaque"),de P "__build_class__" 6 (aF "__build_class__"),de P "__import__" 7 (aF "__import__"),de P "abs" 8 (aF "abs"),de P "all" 9 (aF "all"),de P "any" 10 (aF "any"),de P "ascii" 11 (aF "ascii"),de P "bin" 12 (aF "bin"),de P "breakpoint" 13 (aF "breakpoint"),de P "callable" 14 (aF "callable"),de P "chr" 15 (aF "chr"),de P "compile" 16 (aF "compile"),de P "delattr" 17 (aF "delattr"),de P "dir" 18 (aF "dir"),de P "divmod" 19 (aF "divmod"),de P "eval" 20 (aF "eval"),de P "exec" 21 (aF "exec"),de P "format" 22 (aF "format"),de P "getattr" 23 (aF "getattr"),de P "globals" 24 (aF "globals"),de P "hasattr" 25 (aF "hasattr"),de P "hash" 26 (aF "hash"),de P "hex" 27 (aF "hex"),de P "id" 28 (aF "id"),de P "input" 29 (aF "input"),de P "isinstance" 30 (aF "isinstance"),de P "issubclass" 31 (aF "issubclass"),de P "iter" 32 (aF "iter"),de P "aiter" 33 (aF "aiter"),de P "len" 34 (aF "len"),de P "locals" 35 (aF "locals"),de P "max" 36 (aF "max"),de P "min" 37 (aF "min"),de P "next" 38 (aF "next"),de P "anext" 39 (aF "anext"),de P "oct" 40 (aF "oct"),de P "ord" 41 (aF "ord"),de P "pow" 42 (aF "pow"),de P "print" 43 (aF "print"),de P "repr" 44 (aF "repr"),de P "round" 45 (aF "round"),de P "setattr" 46 (aF "setattr"),de P "sorted" 47 (aF "sorted"),de P "sum" 48 (aF "sum"),de P "vars" 49 (aF "vars"),de P "None" 50 aN,de P "Ellipsis" 51 .ellipsis,de P "NotImplemented" 52 .notImplemented,de P "False" 53 (aB false),de P "True" 54 (aB true),de P "bool" 55 (aT "bool"),de P "memoryview" 56 (aT "memoryview"),de P "bytearray" 57 (aT "bytearray"),de P "bytes" 58 (aT "bytes"),de P "classmethod" 59 (aT "classmethod"),de P "complex" 60 (aT "complex"),de P "dict" 61 (aT "dict"),de P "enumerate" 62 (aT "enumerate"),de P "filter" 63 (aT "filter"),de P "float" 64 (aT "float"),de P "frozenset" 65 (aT "frozenset"),de P "property" 66 (aT "property"),de P "int" 67 (aT "int"),de P "list" 68 (aT "list"),de P "map" 69 (aT "map"),de P "object" 70 (aT "object"),de P "range" 71 (aT "range"),de P "reversed" 72 (aT "reversed"),de P "set" 73 (aT "set"),de P "slice" 74 (aT "slice"),de P "staticmethod" 75 (aT "staticmethod"),de P "str" 76 (aT "str"),de P "super" 77 (aT "super"),de P "tuple" 78 (aT "tuple"),de P "type" 79 (aT "type"),de P "zip" 80 (aT "zip"),de P "__debug__" 81 (aB true),de P "BaseException" 82 (aT "BaseException"),de P "BaseExceptionGroup" 83 (aT "BaseExceptionGroup"),de P "Exception" 84 (aT "Exception"),de P "GeneratorExit" 85 (aT "GeneratorExit"),de P "KeyboardInterrupt" 86 (aT "KeyboardInterrupt"),de P "SystemExit" 87 (aT "SystemExit"),de P "ArithmeticError" 88 (aT "ArithmeticError"),de P "AssertionError" 89 (aT "AssertionError"),de P "AttributeError" 90 (aT "AttributeError"),de P "BufferError" 91 (aT "BufferError"),de P "EOFError" 92 (aT "EOFError"),de P "ImportError" 93 (aT "ImportError"),de P "LookupError" 94 (aT "LookupError"),de P "MemoryError" 95 (aT "MemoryError"),de P "NameError" 96 (aT "NameError"),de P "OSError" 97 (aT "OSError"),de P "ReferenceError" 98 (aT "ReferenceError"),de P "RuntimeError" 99 (aT "RuntimeError"),de P "StopAsyncIteration" 100 (aT "StopAsyncIteration"),de P "StopIteration" 101 (aT "StopIteration"),de P "SyntaxError" 102 (aT "SyntaxError"),de P "SystemError" 103 (aT "SystemError"),de P "TypeError" 104 (aT "TypeError"),de P "ValueError" 105 (aT "ValueError"),de P "Warning" 106 (aT "Warning"),de P "FloatingPointError" 107 (aT "FloatingPointError"),de P "OverflowError" 108 (aT "OverflowError"),de P "ZeroDivisionError" 109 (aT "ZeroDivisionError"),de P "BytesWarning" 110 (aT "BytesWarning"),de P "DeprecationWarning" 111 (aT "DeprecationWarning"),de P "EncodingWarning" 112 (aT "EncodingWarning"),de P "FutureWarning" 113 (aT "FutureWarning"),de P "ImportWarning" 114 (aT "ImportWarning"),de P "PendingDeprecationWarning" 115 (aT "PendingDeprecationWarning"),de P "ResourceWarning" 116 (aT "ResourceWarning"),de P "RuntimeWarning" 117 (aT "RuntimeWarning"),de P "SyntaxWarning" 118 (aT "SyntaxWarning"),de P "UnicodeWarning" 119 (aT "UnicodeWarning"),de P "UserWarning" 120 (aT "UserWarning"),de P "BlockingIOError" 121 (aT "BlockingIOError"),de P "ChildProcessError" 122 (aT "ChildProcessError"),de P "ConnectionError" 123 (aT "ConnectionError"),de P "FileExistsError" 124 (aT "FileExistsError"),de P "FileNotFoundError" 125 (aT "FileNotFoundError"),de P "InterruptedError" 126 (aT "InterruptedError"),de P "IsADirectoryError" 127 (aT "IsADirectoryError"),de P "NotADirectoryError" 128 (aT "NotADirectoryError"),de P "PermissionError" 129 (aT "PermissionError"),de P "ProcessLookupError" 130 (aT "ProcessLookupError"),de P "TimeoutError" 131 (aT "TimeoutError"),de P "IndentationError" 132 (aT "IndentationError"),de P "_IncompleteInputError" 133 (aT "_IncompleteInputError"),de P "IndexError" 134 (aT "IndexError"),de P "KeyError" 135 (aT "KeyError"),de P "ModuleNotFoundError" 136 (aT "ModuleNotFoundError"),de P "NotImplementedError" 137 (aT "NotImplementedError"),de P "PythonFinalizationError" 138 (aT "PythonFinalizationError"),de P "RecursionError" 139 (aT "RecursionError"),de P "UnboundLocalError" 140 (aT "UnboundLocalError"),de P "UnicodeError" 141 (aT "UnicodeError"),de P "BrokenPipeError" 142 (aT "BrokenPipeError"),de P "ConnectionAbortedError" 143 (aT "ConnectionAbortedError"),de P "ConnectionRefusedError" 144 (aT "ConnectionRefusedError"),de P "ConnectionResetError" 145 (aT "ConnectionResetError"),de P "TabError" 146 (aT "TabError"),de P "UnicodeDecodeError" 147 (aT "UnicodeDecodeError"),de P "UnicodeEncodeError" 148 (aT "UnicodeEncodeError"),de P "UnicodeTranslateError" 149 (aT "UnicodeTranslateError"),de P "ExceptionGroup" 150 (aT "ExceptionGroup"),de P "EnvironmentError" 151 (aT "OSError"),de P "IOError" 152 (aT "OSError"),de P "open" 153 (aF "open"),de P "quit" 154 (aF "builtins.quit#opaque"),de P "exit" 155 (aF "builtins.exit#opaque"),de P "copyright" 156 (aF "builtins.copyright#opaque"),de P "credits" 157 (aF "builtins.credits#opaque"),de P "license" 158 (aF "builtins.license#opaque"),de P "help" 159 (aF "builtins.help#opaque")] 159),#[]⟩
noncomputable def b1 (P:Params):Obj:=⟨aT "dict",none,(.dict #[de P "builtins" 162 (aR 4),de P "__main__" 163 (aR 5)] 2),#[]⟩
noncomputable def b2:Obj:=(cd "<module>" "<module>" 176 1 0 0 0 0 7 false 175 8 aN aN aN aN 179 1 180)
noncomputable def b3:Obj:=(cd "<module>" "<module>" 182 1 0 0 0 0 11 false 181 12 aN aN aN aN 185 1 186)
noncomputable def b4:Obj:=⟨aT "frame",none,.plain,#[some (aR 9),some (aR 3),some (aR 3),none,some (aS "__main__" 164),none,some (aR 0)]⟩
noncomputable def b5:Obj:=⟨aT "frame",none,.plain,#[some (aR 13),some (aR 3),some (aR 3),none,some (aS "__main__" 164),none,some (aR 0)]⟩
noncomputable def t0 (P:Params):BT:=(n (b0 P) (n (b1 P) (n ⟨aT "dict",none,(.dict #[de P "__name__" 165 (aS "__main__" 164),de P "__doc__" 166 aN,de P "__package__" 167 aN,de P "__loader__" 168 (aF "__main__.__loader__#opaque"),de P "__spec__" 169 aN,de P "__annotations__" 170 (aR 6),de P "__builtins__" 171 (aR 4),de P "__file__" 173 (aS "/claim/cut.py" 172),de P "__cached__" 174 aN] 9),#[]⟩ (L pz) (L pz)) (n ⟨aT "module",(some 3),.plain,#[]⟩ (L b2) (L b3))) (n ⟨aN,none,(.dict #[] 0),#[]⟩ (n ⟨aT "module",(some 0),.plain,#[]⟩ (L z) (L z)) (n ⟨aT "dict",none,(.dict #[] 0),#[]⟩ (L b4) (L b5))))
noncomputable def t20 (P:Params):BT:=(n (b0 P) (n (b1 P) (n (Zfw P) (n pz (n pz (n (Zfx P) (n pz (n pz (n pz (n z (L (cd "choice_part" "Areas.choice_part" 1593 738 2 0 0 3 1018 true 181 1019 aN (aR 1020) (aR 1021) (aR 1022) 1598 738 1599)) e) (L pz)) (n ⟨aT "super",none,.fields #[aR 380,aR 380,aR 380],#[]⟩ (n (fn "standard_rows" "standard_rows" (A1 62) (B1 62) (S1 62) "clausemill.operators" 1047 638) (L z) e) (L (fz "bind_checked" "bind_checked" Zk5 Zkv ZjU)))) (n (fz "formal_of" "formal_of" Zlp ZkP Zke) (n (fz "mark" "Cells.mark" (A 38 10) (B 38 10) (S 38 10)) (n z (L ⟨aT "builtin_function_or_method",none,.fields #[aF "object.__init_subclass__",aR 1083],#[]⟩) e) (L pz)) (n pz (L (Zh0 P)) (L (fz "take" "Areas.take" ZdA Zc7 ZcB))))) (n (o95 P) (n pz (n pz (n ⟨aT "getset_descriptor",none,.fields #[aS "__weakref__" 925,aR 541,aF "ExceptionGroup.__weakref__",aN],#[]⟩ (L (pt [aS "self" 1633])) e) (L (fn "is_value" "Flags.is_value" (A 67 2) (B 67 2) (S 67 2) "clausemill.operators" 1047 798))) (n z (L (pt [aS "self" 1108,aS "a" 1109])) (L pz))) (n z (n z (n (Zij P) (L pz) e) (L pz)) (n (fz "close" "Streams.close" (A 42 5) (B 42 5) (S 42 5)) (L pz) (L z))))) (n (o47 P) (n (fz "__init__" "Symbols.__init__" Zd2 Gn Z3) (n (cd "functor_count" "Symbols.functor_count" 358 71 1 0 0 3 138 true 181 139 aN (aR 140) (aR 141) (aR 142) 362 71 363) (n (cd "reserve" "Cells.reserve" 543 140 2 0 0 3 266 true 181 267 aN (aR 268) (aR 269) (aR 270) 550 140 551) (n pz (L pz) e) (L (fz "__init__" "Flags.__init__" ZdI Gm Yx))) (n (pt [aN]) (L ⟨aT "builtin_function_or_method",none,.fields #[aF "type.__prepare__",aT "type"],#[]⟩) (L ⟨aT "frame",none,.plain,#[some (aR 910),some (aR 3),some (aR 907),none,some (aS "clausemill.areas" 1447),none,some (aR 0)]⟩))) (n (Zjg P) (n (fn "stack_put" "Cells.stack_put" (A 38 12) (B 38 12) (S 38 12) "clausemill.store" 482 334) (n pz (L (ZfQ P)) e) (L (cd "add" "PairSet.add" 1351 594 3 0 0 3 842 true 181 843 aN (aR 844) (aR 845) (aR 846) 1358 594 1359))) (n (pt [aS "self" 821]) (L (ZhX P)) (L (fn "top" "Areas.top" (A 81 8) (B 81 8) (S 81 8) "clausemill.areas" 1447 974))))) (n z (n (pt [aS "functor" 406,aS "args" 407]) (n (pt [aS "self" 592,aS "c1" 593,aS "c2" 594]) (n (Ziw P) (L ⟨aN,none,.fields #[aI 758 0,aI 4 0,aR 1079],#[]⟩) e) (L z)) (n ⟨aT "super",none,.fields #[aR 430,aR 430,aR 430],#[]⟩ (L (fz "postfix" "OperatorTable.postfix" (A 65 3) (B 65 3) (S 65 3))) (L (pt [aS "self" 1508,aS "i" 1509])))) (n ⟨aT "dict",none,(.dict #[de P "__module__" 511 (aS "clausemill.store" 482),de P "__qualname__" 513 (aS "Cells" 512),de P "__firstlineno__" 515 (aI 117 514),de P "__init__" 525 (aR 251),de P "push" 534 (aR 258),de P "new_var" 542 (aR 265),de P "reserve" 552 (aR 272),de P "trim" 560 (aR 279),de P "deref" 570 (aR 286),de P "is_unbound" 578 (aR 293),de P "bind" 588 (aR 300),de P "bind_pair" 597 (aR 307),de P "globalise" 606 (aR 314),de P "mark" 613 (aR 321),de P "undo_to" 621 (aR 328),de P "stack_put" 630 (aR 335),de P "is_compound" 638 (aR 342),de P "functor_of" 647 (aR 349),de P "width" 656 (aR 356),de P "base" 664 (aR 363),de P "arg" 673 (aR 370),de P "new_block" 682 (aR 377),de P "__static_attributes__" 690 (aR 378)] 23),#[]⟩ (n pz (n pz (L (ZfF P)) e) (L (pt [aS "cell" 1407]))) (n (fn "put_text" "Streams.put_text" (A 42 7) (B 42 7) (S 42 7) "clausemill.streams" 777 494) (L (cd "check_instantiated" "Operators.check_instantiated" 1210 534 5 0 0 3 746 true 181 747 aN (aR 748) (aR 749) (aR 750) 1218 534 1219)) (L pz)))))) (n ⟨aT "builtin_function_or_method",none,.fields #[aF "type.__prepare__",aT "type"],#[]⟩ (n ⟨aN,none,.fields #[aI 9 0,aI 4 0,aR 47],#[]⟩ (n pz (n (fz "count" "Symbols.count" (A 13 8) (B 13 8) (S 13 8)) (n (fz "new_var" "Cells.new_var" ZdV Zdr ZcV) (n (pt [aS "self" 887,aS "number" 888,aS "codes" 889,aS "place" 890]) (L (fn "restore_choice" "Areas.restore_choice" (A 81 16) (B 81 16) (S 81 16) "clausemill.areas" 1447 1030)) e) (L pz)) (n ⟨aT "frame",none,.plain,#[some (aR 390),some (aR 3),some (aR 387),none,some (aS "clausemill.store" 482),none,some (aR 0)]⟩ (n pz (L (fz "law" "law" ZkV We Zu)) e) (L (ZhG P)))) (n (cd "instantiation_error" "instantiation_error" 429 93 1 0 0 3 194 true 181 195 aN (aR 196) (aR 197) (aR 198) 433 93 434) (n (cd "undo_to" "Cells.undo_to" 614 206 2 0 0 3 322 true 181 323 aN (aR 324) (aR 325) (aR 326) 619 206 620) (n (pt [aS "m" 983,aS "number" 984,aS "place" 985,aS "consume" 986,aS "code" 987]) (L pz) e) (L (fz "__init__" "PairSet.__init__" ZdH Zde ZcI))) (n z (L pz) (L (cd "put" "Areas.put" 1530 710 2 0 0 3 962 true 181 963 aN (aR 964) (aR 965) (aR 966) 1535 710 1536))))) (n pz (n z (n z (n (Ziz P) (L ⟨aT "getset_descriptor",none,.fields #[aS "__dict__" 1656,aR 1062,aF "function.__dict__",aF "function.__dict__#set"],#[]⟩) e) (L pz)) (n (pt [aS "self" 757,aS "cell" 758,aS "table" 759,aS "known" 760,aS "results" 761,aS "work" 762,aS "what" 763,aS "f" 764,aS "first" 765,aS "term" 766,aS "tag" 767,aS "place" 768,aS "step" 769]) (L pz) (L z))) (n (pt [aS "symbols" 475,aS "what" 476]) (n (pt [aS "self" 660,aS "cell" 661]) (n (Zig P) (L (ZfI P)) e) (L z)) (n (cd "put" "Streams.put" 844 376 2 0 0 3 482 true 181 483 aN (aR 484) (aR 485) (aR 486) 849 376 850) (L (fz "names_of" "Operators.names_of" (A 66 1) (B 66 1) (S 66 1))) (L (pt [aS "self" 1571,aS "b" 1572])))))) (n z (n (o87 P) (n (fn "known" "Symbols.known" (A 13 10) (B 13 10) (S 13 10) "clausemill.symbols" 194 150) (n (fn "trim" "Cells.trim" (A 38 4) (B 38 4) (S 38 4) "clausemill.store" 482 278) (n pz (L z) e) (L (cd "value" "Flags.value" 1270 555 2 0 0 3 786 true 181 787 aN (aR 788) (aR 789) (aR 790) 1275 555 1276))) (n pz (L z) (L (ZhC P)))) (n pz (n pz (n (fz "get_character" "get_character" Zle ZkE Zj3) (L (fz "_law_pick" "_law_pick" Zk3 Zkt ZjS)) e) (L ⟨aT "builtin_function_or_method",none,.fields #[aF "object.__init_subclass__",aR 851],#[]⟩)) (n pz (L ⟨aT "dict",none,(.dict #[de P "__module__" 1187 (aS "clausemill.operators" 1047),de P "__qualname__" 1189 (aS "Operators" 1188),de P "__firstlineno__" 1191 (aI 526 1190),de P "declare" 1201 (aR 738),de P "names_of" 1209 (aR 745),de P "check_instantiated" 1220 (aR 752),de P "check_types" 1231 (aR 759),de P "check_permission" 1241 (aR 766),de P "__static_attributes__" 1242 (aR 767)] 9),#[]⟩) (L pz)))) (n (pt [aS "self" 338,aS "functor" 339]) (n pz (n pz (n pz (L (ZfW P)) e) (L (ZhR P))) (n ⟨aT "frame",none,.plain,#[some (aR 438),some (aR 3),some (aR 435),none,some (aS "clausemill.streams" 777),none,some (aR 0)]⟩ (L (cd "is_operator" "OperatorTable.is_operator" 1129 502 2 0 0 3 690 true 181 691 aN (aR 692) (aR 693) (aR 694) 1134 502 1135)) (L pz))) (n (pt [aS "self" 520,aS "symbols" 521,aS "max_heap" 522]) (n (fz "new_block" "Cells.new_block" (A 38 18) (B 38 18) (S 38 18)) (n (Zia P) (L pz) e) (L pz)) (n pz (L (fn "check_types" "Operators.check_types" (A 66 3) (B 66 3) (S 66 3) "clausemill.operators" 1047 758)) (L (fz "set_alternative" "Areas.set_alternative" (A 81 14) (B 81 14) (S 81 14))))))))) (n pz (n (fz "_wall" "_wall" (A1 0) (B1 0) (S1 0)) (n (pt [aR 31]) (n (o67 P) (n pz (n pz (n (cd "peek" "Streams.peek" 877 391 1 0 0 3 510 true 181 511 aN (aR 512) (aR 513) (aR 514) 881 391 882) (L (pt [aS "self" 1604])) e) (L ⟨aT "builtin_function_or_method",none,.fields #[aF "object.__init_subclass__",aR 769],#[]⟩)) (n ⟨aT "dict",none,(.dict #[de P "__module__" 705 (aS "clausemill.store" 482),de P "__qualname__" 707 (aS "Store" 706),de P "__firstlineno__" 709 (aI 247 708),de P "new_struct" 718 (aR 398),de P "build_list" 727 (aR 406),de P "list_cells" 735 (aR 413),de P "put_term" 753 (aR 420),de P "take_term" 772 (aR 427),de P "__static_attributes__" 773 (aR 428)] 9),#[]⟩ (n pz (L (Zax P)) e) (L z))) (n z (n z (n (Zir P) (L pz) e) (L pz)) (n (fz "fresh" "Streams.fresh" ZdN Zdj ZcN) (L pz) (L z)))) (n pz (n (fz "atom" "atom" (A1 15) (B1 15) (S1 15)) (n (fz "is_unbound" "Cells.is_unbound" ZdT Zdp ZcT) (n z (L (fn "environments" "Areas.environments" (A 81 20) (B 81 20) (S 81 20) "clausemill.areas" 1447 1058)) e) (L pz)) (n (ZiR P) (L (fn "prefix" "OperatorTable.prefix" (A 65 1) (B 65 1) (S 65 1) "clausemill.operators" 1047 674)) (L (fz "set_x" "Areas.set_x" ZdE Zdb ZcF)))) (n (Zjd P) (n (cd "width" "Cells.width" 648 225 2 0 0 3 350 true 181 351 aN (aR 352) (aR 353) (aR 354) 654 225 655) (n (pt [aS "m" 1023,aS "number" 1024,aS "first" 1025]) (L (ZfJ P)) e) (L (fz "push_pairs" "push_pairs" (A1 71) (B1 71) (S1 71)))) (n z (L pz) (L (cd "in_chain" "Areas.in_chain" 1560 726 2 0 0 3 990 true 181 991 aN (aR 992) (aR 993) (aR 994) 1565 726 1566)))))) (n (o51 P) (n z (n (pt [aS "self" 368,aS "text" 369,aS "arity" 370,aS "atom" 371]) (n (pt [aS "self" 556,aS "h" 557]) (n (pt [aI 0 904]) (L (fz "cut_back" "Areas.cut_back" (A 81 18) (B 81 18) (S 81 18))) e) (L z)) (n pz (L (cd "OperatorTable" "OperatorTable" 1082 480 0 0 0 0 657 false 181 658 aN aN aN aN 1085 480 1086)) (L (pt [aS "self" 1470,aS "symbols" 1471,aS "code" 1472,aS "max_heap" 1473,aS "occurs" 1474,aS "max_bits" 1475])))) (n pz (n pz (n pz (L pz) e) (L (ZhN P))) (n (fn "open_output" "Streams.open_output" (A 42 3) (B 42 3) (S 42 3) "clausemill.streams" 777 466) (L ⟨aT "super",none,.fields #[aR 720,aR 720,aR 720],#[]⟩) (L pz)))) (n (cd "name" "Symbols.name" 327 59 2 0 0 3 110 true 181 111 aN (aR 112) (aR 113) (aR 114) 332 59 333) (n (Zjm P) (n (fn "bind_pair" "Cells.bind_pair" (A 38 8) (B 38 8) (S 38 8) "clausemill.store" 482 306) (n pz (L z) e) (L (cd "set" "Flags.set" 1305 572 3 0 0 3 814 true 181 815 aN (aR 816) (aR 817) (aR 818) 1314 572 1315))) (n ⟨aT "dict",none,(.dict #[de P "__module__" 789 (aS "clausemill.streams" 777),de P "__qualname__" 791 (aS "Streams" 790),de P "__firstlineno__" 793 (aI 333 792),de P "__init__" 800 (aR 446),de P "fresh" 808 (aR 453),de P "open_input" 817 (aR 460),de P "open_output" 824 (aR 467),de P "open_file" 833 (aR 474),de P "close" 843 (aR 481),de P "put" 851 (aR 488),de P "put_text" 859 (aR 495),de P "write_text" 868 (aR 502),de P "get" 876 (aR 509),de P "peek" 883 (aR 516),de P "next_code" 893 (aR 523),de P "at_end" 903 (aR 530),de P "output_text" 912 (aR 538),de P "__static_attributes__" 922 (aR 539)] 18),#[]⟩ (L z) (L (Zhu P)))) (n ⟨aT "frame",none,.plain,#[some (aR 242),some (aR 3),some (aR 239),none,some (aS "clausemill.store" 482),none,some (aR 0)]⟩ (n pz (n (fz "at_end_of_input" "at_end_of_input" Zla ZkA ZjZ) (L pz) e) (L (ZhL P))) (n pz (L (pt [aS "self" 1224,aS "priority_term" 1225,aS "type_term" 1226,aS "name_term" 1227,aS "items" 1228])) (L pz)))))) (n (cd "ClausemillError" "ClausemillError" 198 5 0 0 0 0 25 false 181 26 aN aN aN aN 201 5 202) (n z (n pz (n z (n z (n (ZiE P) (L pz) e) (L pz)) (n pz (L (fz "fixity" "fixity" Zk8 Zky ZjX)) (L ⟨aT "dict",none,(.dict #[de P "__module__" 1460 (aS "clausemill.areas" 1447),de P "__qualname__" 1462 (aS "Areas" 1461),de P "__firstlineno__" 1464 (aI 665 1463),de P "__init__" 1478 (aR 919),de P "reset" 1485 (aR 926),de P "set_x" 1494 (aR 933),de P "set_arguments" 1504 (aR 940),de P "arg" 1512 (aR 947),de P "unify" 1521 (aR 954),de P "take" 1529 (aR 961),de P "put" 1537 (aR 968),de P "top" 1544 (aR 975),de P "push_environment" 1552 (aR 982),de P "pop_environment" 1559 (aR 989),de P "in_chain" 1567 (aR 996),de P "set_choice" 1575 (aR 1003),de P "push_choice" 1584 (aR 1010),de P "set_alternative" 1592 (aR 1017),de P "choice_part" 1600 (aR 1024),de P "restore_choice" 1607 (aR 1031),de P "pop_choice" 1614 (aR 1038),de P "cut_back" 1622 (aR 1045),de P "choices" 1629 (aR 1052),de P "environments" 1636 (aR 1059),de P "__static_attributes__" 1655 (aR 1060)] 25),#[]⟩))) (n (pt [aS "symbols" 439,aS "kind" 440,aS "culprit" 441]) (n (pt [aS "self" 625,aS "i" 626,aS "value" 627]) (n (Zio P) (L (fz "__init__" "HostedAreas.__init__" Zdy Zc5 Zcz)) e) (L z)) (n (ZiH P) (L (fz "rows" "OperatorTable.rows" (A 65 7) (B 65 7) (S 65 7))) (L (pt [aS "self" 1541]))))) (n (fz "func" "Symbols.func" ZdY Zdu ZcY) (n (Zjp P) (n (ZiZ P) (n (pt [aS "m" 945,aS "number" 946,aS "streams" 947,aS "culprit" 948]) (L pz) e) (L (fz "rows" "Flags.rows" (A 67 4) (B 67 4) (S 67 4)))) (n (ZiO P) (L pz) (L (Zhx P)))) (n (fn "resource_error" "resource_error" (A1 25) (B1 25) (S1 25) "clausemill.terms" 387 234) (n (fn "base" "Cells.base" (A 38 16) (B 38 16) (S 38 16) "clausemill.store" 482 362) (n pz (L (pt [aS "told" 1759,aS "due" 1760])) e) (L (cd "same_shape" "same_shape" 1395 609 3 0 0 3 870 true 181 871 aN (aR 872) (aR 873) (aR 874) 1401 609 1402))) (n (pt [aS "self" 855,aS "text" 856]) (L z) (L (fn "set_choice" "Areas.set_choice" (A 81 12) (B 81 12) (S 81 12) "clausemill.areas" 1447 1002)))))) (n (o59 P) (n (pt [aS "self" 301,aS "number" 302]) (n ⟨aT "getset_descriptor",none,.fields #[aS "__dict__" 380,aR 154,aF "function.__dict__",aF "function.__dict__#set"],#[]⟩ (n pz (n (pt [aS "actions" 913,aS "aliases" 914,aS "current_input" 915,aS "current_output" 916,aS "files" 917,aS "inputs" 918,aS "next_number" 919,aS "outputs" 920,aS "past" 921]) (L (cd "choices" "Areas.choices" 1623 750 1 0 0 3 1046 true 181 1047 aN (aR 1048) (aR 1049) (aR 1050) 1627 750 1628)) e) (L (pt [aS "self" 1281,aS "name" 1282,aS "text" 1283]))) (n (fz "list_cells" "Store.list_cells" (A 39 2) (B 39 2) (S 39 2)) (L (Zh3 P)) (L pz))) (n (fz "permission_error" "permission_error" Zln ZkN Zkc) (n (fz "functor_of" "Cells.functor_of" (A 38 14) (B 38 14) (S 38 14)) (n z (L z) e) (L pz)) (n pz (L ⟨aT "frame",none,.plain,#[some (aR 730),some (aR 3),some (aR 727),none,some (aS "clausemill.operators" 1047),none,some (aR 0)]⟩) (L (fz "pop_environment" "Areas.pop_environment" (A 81 10) (B 81 10) (S 81 10)))))) (n (fn "arity" "Symbols.arity" (A 13 6) (B 13 6) (S 13 6) "clausemill.symbols" 194 122) (n pz (n pz (n (fz "check_character_target" "check_character_target" Zli ZkI Zj7) (L (ZfT P)) e) (L ⟨aT "builtin_function_or_method",none,.fields #[aF "object.__init_subclass__",aR 823],#[]⟩)) (n pz (L (pt [aS "self" 1140,aS "type_text" 1141,aS "kind" 1142])) (L pz))) (n (Zi8 P) (n (ZiS P) (n pz (L (fz "_law_taken" "_law_taken" ZkX U4 Z7)) e) (L pz)) (n (fz "get" "Streams.get" (A 42 9) (B 42 9) (S 42 9)) (L pz) (L z)))))))) (n ⟨aT "module",(some 3),.plain,#[]⟩ (n b2 (n (pt [aS "k" 190]) (n ⟨aT "super",none,.fields #[aR 31,aR 31,aR 31],#[]⟩ (n (fz "fixed_functors" "fixed_functors" Zlt ZkT Zki) (n (cd "label" "Symbols.label" 343 65 2 0 0 3 124 true 181 125 aN (aR 126) (aR 127) (aR 128) 348 65 349) (n (Zi7 P) (n pz (L pz) e) (L (ZhV P))) (n (pt [aR 380]) (n z (L (pt [aS "deed" 1797,aS "spot" 1798])) e) (L (ZhH P)))) (n (Zji P) (n (fn "mark" "Cells.mark" (A 38 10) (B 38 10) (S 38 10) "clausemill.store" 482 320) (n pz (L ⟨aT "builtin_function_or_method",none,.fields #[aF "type.__prepare__",aT "type"],#[]⟩) e) (L (cd "PairSet" "PairSet" 1333 588 0 0 0 0 831 false 181 832 aN aN aN aN 1336 588 1337))) (n (pt [aS "self" 804,aS "number" 805]) (L z) (L (Zhq P))))) (n z (n (pt [aS "number" 392]) (n (pt [aS "self" 574,aS "cell" 575]) (n ⟨aT "builtin_function_or_method",none,.fields #[aF "object.__init_subclass__",aR 541],#[]⟩ (L (fz "environments" "Areas.environments" (A 81 20) (B 81 20) (S 81 20))) e) (L z)) (n pz (L (fz "prefix" "OperatorTable.prefix" (A 65 1) (B 65 1) (S 65 1))) (L (pt [aS "self" 1489,aS "number" 1490,aS "cell" 1491])))) (n pz (n pz (n pz (L (fz "_law_plain" "_law_plain" Zk1 Zkr ZjQ)) e) (L (pt [aS "store" 1385,aS "left" 1386,aS "right" 1387,aS "work" 1388,aS "left_place" 1389,aS "right_place" 1390,aS "step" 1391]))) (n (fn "close" "Streams.close" (A 42 5) (B 42 5) (S 42 5) "clausemill.streams" 777 480) (L (cd "declare" "Operators.declare" 1192 528 4 0 0 3 732 true 181 733 aN (aR 734) (aR 735) (aR 736) 1199 528 1200)) (L pz))))) (n (pt [aS "ball" 236]) (n (o81 P) (n pz (n pz (n (ZiD P) (L (pt [aS "self" 1618,aS "b" 1619])) e) (L (ZhT P))) (n z (L pz) (L pz))) (n z (n z (n (Zin P) (L ⟨aT "super",none,.fields #[aR 1104,aR 1104,aR 1104],#[]⟩) e) (L (pt [aS "met" 1361,aS "span" 1362]))) (n (fz "open_output" "Streams.open_output" (A 42 3) (B 42 3) (S 42 3)) (L ⟨aT "getset_descriptor",none,.fields #[aS "__dict__" 1173,aR 720,aF "function.__dict__",aF "function.__dict__#set"],#[]⟩) (L z)))) (n pz (n (fz "struct" "struct" Zlr ZkR Zkg) (n (fz "bind_pair" "Cells.bind_pair" (A 38 8) (B 38 8) (S 38 8)) (n z (L ⟨aT "frame",none,.plain,#[some (aR 1072),some (aR 3),some (aR 1069),none,some (aS "clausemill.hosted" 1663),none,some (aR 0)]⟩) e) (L pz)) (n pz (L (fn "postfix" "OperatorTable.postfix" (A 65 3) (B 65 3) (S 65 3) "clausemill.operators" 1047 688)) (L (fz "arg" "Areas.arg" ZdC Zc9 ZcD)))) (n ⟨aN,none,.fields #[aI 119 0,aI 4 0,aR 250,aI 128 0,aI 4 0,aR 257,aI 135 0,aI 4 0,aR 264,aI 140 0,aI 4 0,aR 271,aI 148 0,aI 4 0,aR 278,aI 151 0,aI 4 0,aR 285,aI 164 0,aI 4 0,aR 292,aI 171 0,aI 4 0,aR 299,aI 182 0,aI 4 0,aR 306,aI 195 0,aI 4 0,aR 313,aI 203 0,aI 4 0,aR 320,aI 206 0,aI 4 0,aR 327,aI 209 0,aI 4 0,aR 334,aI 212 0,aI 4 0,aR 341,aI 215 0,aI 4 0,aR 348,aI 225 0,aI 4 0,aR 355,aI 233 0,aI 4 0,aR 362,aI 238 0,aI 4 0,aR 369,aI 241 0,aI 4 0,aR 376],#[]⟩ (n (cd "arg" "Cells.arg" 665 238 3 0 0 3 364 true 181 365 aN (aR 366) (aR 367) (aR 368) 671 238 672) (n (pt [aS "m" 1041,aS "number" 1042,aS "first" 1043]) (L z) e) (L (fz "is_variable" "is_variable" Zk7 Zkx ZjW))) (n z (L pz) (L (cd "push_choice" "Areas.push_choice" 1576 732 3 0 0 3 1004 true 181 1005 aN (aR 1006) (aR 1007) (aR 1008) 1582 732 1583))))))) (n pz (n ⟨aT "frame",none,.plain,#[some (aR 40),some (aR 3),some (aR 37),none,some (aS "clausemill.symbols" 194),none,some (aR 0)]⟩ (n (cd "Symbols" "Symbols" 269 22 0 0 0 0 71 false 181 72 aN aN aN aN 272 22 273) (n (fn "count" "Symbols.count" (A 13 8) (B 13 8) (S 13 8) "clausemill.symbols" 194 136) (n (Zi4 P) (n (fz "next_code" "Streams.next_code" ZaQ ZaN ZaK) (L z) e) (L (cd "Flags" "Flags" 1248 542 0 0 0 0 775 false 181 776 aN aN aN aN 1251 542 1252))) (n z (n (pt [aS "type_text" 1076]) (L (Zfy P)) e) (L pz))) (n pz (n pz (n (fz "character_input" "character_input" Zlg ZkG Zj5) (L (pt [aS "self" 1713,aS "symbols" 1714,aS "streams" 1715,aS "operators" 1716,aS "flags" 1717])) e) (L (ZhP P))) (n pz (L (pt [aS "self" 1160,aS "found" 1161,aS "table" 1162,aS "a" 1163,aS "entry" 1164])) (L pz)))) (n (pt [aS "self" 321,aS "text" 322,aS "arity" 323]) (n pz (n pz (n pz (L ⟨aT "super",none,.fields #[aR 1062,aR 1062,aR 1062],#[]⟩) e) (L (pt [aS "self" 1299,aS "found" 1300,aS "name" 1301]))) (n (fz "take_term" "Store.take_term" ZdP Zdl ZcP) (L (cd "infix" "OperatorTable.infix" 1113 496 2 0 0 3 676 true 181 677 aN (aR 678) (aR 679) (aR 680) 1118 496 1119)) (L pz))) (n (fz "resource_error" "resource_error" (A1 25) (B1 25) (S1 25)) (n (fz "base" "Cells.base" (A 38 16) (B 38 16) (S 38 16)) (n z (L pz) e) (L pz)) (n pz (L (fn "names_of" "Operators.names_of" (A 66 1) (B 66 1) (S 66 1) "clausemill.operators" 1047 744)) (L (fz "set_choice" "Areas.set_choice" (A 81 12) (B 81 12) (S 81 12))))))) (n pz (n pz (n (Zjr P) (n z (n (cd "output_text" "Streams.output_text" 905 404 2 0 0 3 532 true 181 533 aN (aR 534) (aR 535) (aR 536) 910 404 911) (L pz) e) (L pz)) (n (pt [aS "self" 731,aS "cell" 732]) (L pz) (L z))) (n (pt [aS "symbols" 457,aS "action" 458,aS "kind" 459,aS "culprit" 460]) (n (pt [aS "self" 642,aS "cell" 643,aS "tag" 644]) (n (Zik P) (L (ZfN P)) e) (L z)) (n (cd "open_file" "Streams.open_file" 825 359 3 0 0 3 468 true 181 469 aN (aR 470) (aR 471) (aR 472) 831 359 832) (L ⟨aN,none,.fields #[aI 528 0,aI 4 0,aR 737,aI 531 0,aI 4 0,aR 744,aI 534 0,aI 4 0,aR 751,aI 537 0,aI 4 0,aR 758,aI 540 0,aI 4 0,aR 765],#[]⟩) (L (pt [aS "self" 1556]))))) (n (fz "arity" "Symbols.arity" (A 13 6) (B 13 6) (S 13 6)) (n (Zjl P) (n (ZiW P) (n (pt [aS "m" 967,aS "cell" 968]) (L (pt [aS "flags" 1687,aS "operators" 1688,aS "streams" 1689])) e) (L ⟨aT "getset_descriptor",none,.fields #[aS "__weakref__" 1324,aR 823,aF "ExceptionGroup.__weakref__",aN],#[]⟩)) (n z (L pz) (L (Zht P)))) (n (fz "__init__" "Cells.__init__" ZdX Zdt ZcX) (n (fn "new_block" "Cells.new_block" (A 38 18) (B 38 18) (S 38 18) "clausemill.store" 482 376) (n pz (L (pt [aS "names" 1777,aS "world" 1778,aS "number" 1779,aS "target" 1780,aS "chars" 1781,aS "moves" 1782,aS "source" 1783,aS "ended" 1784,aS "culprit" 1785,aS "code" 1786,aS "value" 1787])) e) (L (ZhK P))) (n (pt [aS "self" 872,aS "code" 873]) (L z) (L (fn "set_alternative" "Areas.set_alternative" (A 81 14) (B 81 14) (S 81 14) "clausemill.areas" 1447 1016)))))))) (n b3 (n (fn "_wall" "_wall" (A1 0) (B1 0) (S1 0) "__main__" 164 20) (n ⟨aT "dict",none,(.dict #[de P "__module__" 223 (aS "clausemill.symbols" 194),de P "__qualname__" 225 (aS "PrologError" 224),de P "__firstlineno__" 227 (aI 7 226),de P "__init__" 235 (aR 48),de P "__static_attributes__" 237 (aR 49)] 5),#[]⟩ (n ⟨aT "builtin_function_or_method",none,.fields #[aF "type.__prepare__",aT "type"],#[]⟩ (n (pt [aS "self" 354]) (n (pt [aS "self" 538,aS "cell" 539]) (n pz (L (fz "restore_choice" "Areas.restore_choice" (A 81 16) (B 81 16) (S 81 16))) e) (L ⟨aT "builtin_function_or_method",none,.fields #[aF "type.__prepare__",aT "type"],#[]⟩)) (n ⟨aN,none,.fields #[aI 249 0,aI 4 0,aR 397,aI 252 0,aI 4 0,aR 405,aI 255 0,aI 4 0,aR 412,aI 258 0,aI 4 0,aR 419,aI 295 0,aI 4 0,aR 426],#[]⟩ (n (Zh8 P) (L pz) e) (L pz))) (n pz (n pz (n pz (L (cd "HostedAreas" "HostedAreas" 1700 762 0 0 0 0 1091 false 181 1092 aN aN aN aN 1703 762 1704)) e) (L (pt [aS "self" 1346,aS "store" 1347]))) (n (ZiI P) (L (ZhZ P)) (L pz)))) (n (Zjv P) (n (fn "atom" "atom" (A1 15) (B1 15) (S1 15) "clausemill.terms" 387 164) (n (Zi0 P) (n pz (L (ZfX P)) e) (L (cd "put" "Flags.put" 1287 563 3 0 0 3 800 true 181 801 aN (aR 802) (aR 803) (aR 804) 1293 563 1294))) (n pz (L z) (L (Zhy P)))) (n pz (n pz (n (fz "get_character_code" "get_character_code" Zlc ZkC Zj1) (L z) e) (L (fn "push_pairs" "push_pairs" (A1 71) (B1 71) (S1 71) "clausemill.unify" 1329 868))) (n pz (L (pt [aS "self" 1205,aS "name_term" 1206])) (L pz))))) (n ⟨aT "builtin_function_or_method",none,.fields #[aF "object.__init_subclass__",aR 51],#[]⟩ (n pz (n (fz "known" "Symbols.known" (A 13 10) (B 13 10) (S 13 10)) (n (fz "trim" "Cells.trim" (A 38 4) (B 38 4) (S 38 4)) (n z (L (fn "cut_back" "Areas.cut_back" (A 81 18) (B 81 18) (S 81 18) "clausemill.areas" 1447 1044)) e) (L pz)) (n (cd "build_list" "Store.build_list" 719 252 3 0 0 3 400 true 181 401 aN (aR 402) (aR 403) (aR 404) 725 252 726) (L (Zh4 P)) (L (fz "__init__" "Areas.__init__" ZdG Zdd ZcH)))) (n (cd "domain_error" "domain_error" 445 97 3 0 0 3 208 true 181 209 aN (aR 210) (aR 211) (aR 212) 451 97 452) (n (ZiU P) (n (pt [aS "m" 1005,aS "number" 1006,aS "first" 1007]) (L (pt [aS "hand" 1731,aS "limit" 1732,aS "number" 1733,aS "digit" 1734])) e) (L ⟨aT "getset_descriptor",none,.fields #[aS "__weakref__" 1366,aR 851,aF "ExceptionGroup.__weakref__",aN],#[]⟩)) (n z (L (pt [aR 720])) (L (cd "push_environment" "Areas.push_environment" 1545 720 2 0 0 3 976 true 181 977 aN (aR 978) (aR 979) (aR 980) 1550 720 1551))))) (n pz (n z (n z (n (Ziv P) (L pz) e) (L (pt [aS "fitting" 1317,aS "fixed" 1318,aS "symbols" 1319,aS "values" 1320]))) (n ⟨aN,none,.fields #[aI 335 0,aI 4 0,aR 445,aI 346 0,aI 4 0,aR 452,aI 351 0,aI 4 0,aR 459,aI 356 0,aI 4 0,aR 466,aI 359 0,aI 4 0,aR 473,aI 362 0,aI 4 0,aR 480,aI 376 0,aI 4 0,aR 487,aI 379 0,aI 4 0,aR 494,aI 382 0,aI 4 0,aR 501,aI 385 0,aI 4 0,aR 508,aI 391 0,aI 4 0,aR 515,aI 394 0,aI 4 0,aR 522,aI 400 0,aI 4 0,aR 529,aI 404 0,aI 4 0,aR 537],#[]⟩ (L pz) (L z))) (n pz (n (pt [aS "self" 677,aS "f" 678,aS "start" 679]) (n (Zic P) (L (ZfE P)) e) (L z)) (n (cd "write_text" "Streams.write_text" 860 382 3 0 0 3 496 true 181 497 aN (aR 498) (aR 499) (aR 500) 866 382 867) (L (fz "check_types" "Operators.check_types" (A 66 3) (B 66 3) (S 66 3))) (L (pt [aS "self" 1588,aS "address" 1589]))))))) (n pz (n pz (n (pt [aS "self" 282,aS "text" 283,aS "row" 284]) (n pz (n pz (n z (L (cd "pop_choice" "Areas.pop_choice" 1608 744 1 0 0 3 1032 true 181 1033 aN (aR 1034) (aR 1035) (aR 1036) 1612 744 1613)) e) (L (pt [aS "self" 1261,aS "symbols" 1262,aS "name" 1263,aS "start" 1264,aS "fitting" 1265,aS "free" 1266]))) (n (cd "new_struct" "Store.new_struct" 710 249 3 0 0 3 392 true 181 393 aN (aR 394) (aR 395) (aR 396) 716 249 717) (L (Zh5 P)) (L ⟨aN,none,.fields #[aI 667 0,aI 4 0,aR 918,aI 675 0,aI 4 0,aR 925,aI 690 0,aI 4 0,aR 932,aI 695 0,aI 4 0,aR 939,aI 701 0,aI 4 0,aR 946,aI 704 0,aI 4 0,aR 953,aI 707 0,aI 4 0,aR 960,aI 710 0,aI 4 0,aR 967,aI 713 0,aI 4 0,aR 974,aI 720 0,aI 4 0,aR 981,aI 723 0,aI 4 0,aR 988,aI 726 0,aI 4 0,aR 995,aI 729 0,aI 4 0,aR 1002,aI 732 0,aI 4 0,aR 1009,aI 735 0,aI 4 0,aR 1016,aI 738 0,aI 4 0,aR 1023,aI 741 0,aI 4 0,aR 1030,aI 744 0,aI 4 0,aR 1037,aI 747 0,aI 4 0,aR 1044,aI 750 0,aI 4 0,aR 1051,aI 753 0,aI 4 0,aR 1058],#[]⟩))) (n (fz "type_error" "type_error" Zlo ZkO Zkd) (n (fz "stack_put" "Cells.stack_put" (A 38 12) (B 38 12) (S 38 12)) (n z (L (ZfR P)) e) (L pz)) (n pz (L (fn "rows" "OperatorTable.rows" (A 65 7) (B 65 7) (S 65 7) "clausemill.operators" 1047 716)) (L (fz "top" "Areas.top" (A 81 8) (B 81 8) (S 81 8)))))) (n (Zjs P) (n pz (n pz (n (fz "check_not_past" "check_not_past" Zlk ZkK Zj9) (L ⟨aT "dict",none,(.dict #[de P "__module__" 1672 (aS "clausemill.hosted" 1663),de P "__qualname__" 1674 (aS "Surroundings" 1673),de P "__firstlineno__" 1676 (aI 756 1675),de P "__init__" 1686 (aR 1080),de P "__static_attributes__" 1690 (aR 1081)] 5),#[]⟩) e) (L (fn "rows" "Flags.rows" (A 67 4) (B 67 4) (S 67 4) "clausemill.operators" 1047 812))) (n (ZiN P) (L (pt [aS "self" 1124,aS "a" 1125])) (L pz))) (n pz (n z (n (Zif P) (L (fz "_law_agrees" "_law_agrees" ZkZ Zkp ZjO)) e) (L pz)) (n (fz "put_text" "Streams.put_text" (A 42 7) (B 42 7) (S 42 7)) (L pz) (L z))))) (n pz (n (fz "text" "Symbols.text" Zd0 Zdw Zc0) (n ⟨aT "super",none,.fields #[aR 154,aR 154,aR 154],#[]⟩ (n (Zi3 P) (n (ZiA P) (L pz) e) (L (fz "is_value" "Flags.is_value" (A 67 2) (B 67 2) (S 67 2)))) (n (fn "list_cells" "Store.list_cells" (A 39 2) (B 39 2) (S 39 2) "clausemill.store" 482 412) (L pz) (L (ZhB P)))) (n (Zje P) (n (fn "functor_of" "Cells.functor_of" (A 38 14) (B 38 14) (S 38 14) "clausemill.store" 482 348) (n pz (L (ZfM P)) e) (L (cd "push_arguments" "push_arguments" 1371 600 3 0 0 3 856 true 181 857 aN (aR 858) (aR 859) (aR 860) 1379 600 1380))) (n (pt [aS "self" 837,aS "number" 838,aS "table" 839,aS "text" 840]) (L z) (L (fn "pop_environment" "Areas.pop_environment" (A 81 10) (B 81 10) (S 81 10) "clausemill.areas" 1447 988))))) (n z (n (pt [aS "symbols" 421,aS "name" 422,aS "parts" 423,aS "args" 424,aS "part" 425]) (n (pt [aS "self" 610]) (n (Zis P) (L ⟨aT "getset_descriptor",none,.fields #[aS "__weakref__" 1693,aR 1083,aF "ExceptionGroup.__weakref__",aN],#[]⟩) e) (L ⟨aT "builtin_function_or_method",none,.fields #[aF "type.__prepare__",aT "type"],#[]⟩)) (n (ZiL P) (L (fz "table_of" "OperatorTable.table_of" ZdK Zdg ZcK)) (L (pt [aS "self" 1525,aS "cell" 1526])))) (n z (n ⟨aT "getset_descriptor",none,.fields #[aS "__dict__" 691,aR 380,aF "function.__dict__",aF "function.__dict__#set"],#[]⟩ (n (fz "standard_rows" "standard_rows" (A1 62) (B1 62) (S1 62)) (L (ZfB P)) e) (L (pt [aS "store" 1429,aS "variable" 1430,aS "value" 1431,aS "occurs" 1432]))) (n (fn "get" "Streams.get" (A 42 9) (B 42 9) (S 42 9) "clausemill.streams" 777 508) (L (cd "check_permission" "Operators.check_permission" 1232 540 4 0 0 3 760 true 181 761 aN (aR 762) (aR 763) (aR 764) 1239 540 1240)) (L pz))))))))) (n (ZiY P) (n ⟨aT "module",(some 0),.plain,#[]⟩ (n z (n z (n ⟨aT "getset_descriptor",none,.fields #[aS "__weakref__" 209,aR 31,aF "ExceptionGroup.__weakref__",aN],#[]⟩ (n pz (n (fz "label" "Symbols.label" (A 13 7) (B 13 7) (S 13 7)) (n (fz "push" "Cells.push" ZdW Zds ZcW) (n (pt [aS "self" 880]) (L (fn "choice_part" "Areas.choice_part" (A 81 15) (B 81 15) (S 81 15) "clausemill.areas" 1447 1023)) e) (L (ZhW P))) (n ⟨aT "builtin_function_or_method",none,.fields #[aF "object.__init_subclass__",aR 380],#[]⟩ (n pz (L (pt [aS "deed" 1794,aS "spot" 1795,aS "pure" 1796])) e) (L (ZhI P)))) (n (Zjj P) (n (cd "mark" "Cells.mark" 607 203 1 0 0 3 315 true 181 316 aN (aR 317) (aR 318) (aR 319) 611 203 612) (n (pt [aS "m" 975,aS "cell" 976]) (L (pt [aR 1062])) e) (L ⟨aN,none,.fields #[aI 590 0,aI 4 0,aR 840,aI 594 0,aI 4 0,aR 847],#[]⟩)) (n z (L pz) (L (Zhr P))))) (n pz (n z (n z (n ⟨aT "super",none,.fields #[aR 541,aR 541,aR 541],#[]⟩ (L pz) e) (L pz)) (n (pt [aS "self" 739,aS "term" 740,aS "table" 741,aS "k" 742,aS "kind" 743,aS "made" 744,aS "waiting" 745,aS "at" 746,aS "place" 747,aS "items" 748,aS "item" 749,aS "inner" 750]) (L pz) (L z))) (n (pt [aS "symbols" 467,aS "what" 468]) (n (pt [aS "self" 651,aS "cell" 652,aS "tag" 653]) (n (Zii P) (L z) e) (L z)) (n (cd "close" "Streams.close" 834 362 2 0 0 3 475 true 181 476 aN (aR 477) (aR 478) (aR 479) 841 362 842) (L (fz "declare" "Operators.declare" (A 66 0) (B 66 0) (S 66 0))) (L (pt [aS "self" 1563,aS "index" 1564])))))) (n (o48 P) (n (o80 P) (n (fn "functor_count" "Symbols.functor_count" (A 13 9) (B 13 9) (S 13 9) "clausemill.symbols" 194 143) (n (fn "reserve" "Cells.reserve" (A 38 3) (B 38 3) (S 38 3) "clausemill.store" 482 271) (n (fz "at_end" "Streams.at_end" ZaP ZaM ZaJ) (L z) e) (L (ZhU P))) (n pz (L ⟨aT "dict",none,(.dict #[de P "__module__" 1087 (aS "clausemill.operators" 1047),de P "__qualname__" 1089 (aS "OperatorTable" 1088),de P "__firstlineno__" 1091 (aI 480 1090),de P "__init__" 1104 (aR 668),de P "prefix" 1112 (aR 675),de P "infix" 1120 (aR 682),de P "postfix" 1128 (aR 689),de P "is_operator" 1136 (aR 696),de P "table_of" 1145 (aR 703),de P "add" 1156 (aR 710),de P "rows" 1167 (aR 717),de P "__static_attributes__" 1172 (aR 718)] 12),#[]⟩) (L (ZhE P)))) (n pz (n pz (n (fz "code_input" "code_input" Zlf ZkF Zj4) (L (ZfP P)) e) (L (fn "add" "PairSet.add" (A 69 1) (B 69 1) (S 69 1) "clausemill.unify" 1329 847))) (n pz (L (Zaw P)) (L pz)))) (n (pt [aS "self" 330,aS "functor" 331]) (n pz (n pz (n pz (L (cd "Surroundings" "Surroundings" 1667 756 0 0 0 0 1070 false 181 1071 aN aN aN aN 1670 756 1671)) e) (L (pt [aS "self" 1308,aS "name_term" 1309,aS "value_term" 1310,aS "name" 1311,aS "fits" 1312,aS "culprit" 1313]))) (n ⟨aT "builtin_function_or_method",none,.fields #[aF "object.__init_subclass__",aR 430],#[]⟩ (L (cd "postfix" "OperatorTable.postfix" 1121 499 2 0 0 3 683 true 181 684 aN (aR 685) (aR 686) (aR 687) 1126 499 1127)) (L pz))) (n pz (n (fz "arg" "Cells.arg" (A 38 17) (B 38 17) (S 38 17)) (n z (L pz) e) (L pz)) (n pz (L (fn "check_instantiated" "Operators.check_instantiated" (A 66 2) (B 66 2) (S 66 2) "clausemill.operators" 1047 751)) (L (fz "push_choice" "Areas.push_choice" (A 81 13) (B 81 13) (S 81 13)))))))) (n ⟨aT "dict",none,(.dict #[de P "__module__" 203 (aS "clausemill.symbols" 194),de P "__qualname__" 205 (aS "ClausemillError" 204),de P "__firstlineno__" 207 (aI 5 206),de P "__static_attributes__" 208 (aR 29)] 4),#[]⟩ (n (cd "PrologError" "PrologError" 218 7 0 0 0 0 38 false 181 39 aN aN aN aN 221 7 222) (n ⟨aN,none,.fields #[aI 24 0,aI 4 0,aR 80,aI 34 0,aI 4 0,aR 87,aI 43 0,aI 4 0,aR 94,aI 46 0,aI 4 0,aR 101,aI 56 0,aI 4 0,aR 108,aI 59 0,aI 4 0,aR 115,aI 62 0,aI 4 0,aR 122,aI 65 0,aI 4 0,aR 129,aI 68 0,aI 4 0,aR 136,aI 71 0,aI 4 0,aR 143,aI 74 0,aI 4 0,aR 150],#[]⟩ (n (cd "count" "Symbols.count" 351 68 1 0 0 3 131 true 181 132 aN (aR 133) (aR 134) (aR 135) 355 68 356) (n (Zi5 P) (n pz (L pz) e) (L ⟨aN,none,.fields #[aI 544 0,aI 4 0,aR 784,aI 555 0,aI 4 0,aR 791,aI 560 0,aI 4 0,aR 798,aI 563 0,aI 4 0,aR 805,aI 566 0,aI 4 0,aR 812,aI 572 0,aI 4 0,aR 819],#[]⟩)) (n pz (n z (L (Zfz P)) e) (L (ZhF P)))) (n (fn "instantiation_error" "instantiation_error" (A1 20) (B1 20) (S1 20) "clausemill.terms" 387 199) (n (fn "undo_to" "Cells.undo_to" (A 38 11) (B 38 11) (S 38 11) "clausemill.store" 482 327) (n pz (L z) e) (L (ZhQ P))) (n (pt [aS "self" 812,aS "codes" 813,aS "number" 814]) (L z) (L (fn "put" "Areas.put" (A 81 7) (B 81 7) (S 81 7) "clausemill.areas" 1447 967))))) (n z (n (pt [aS "whole" 399]) (n (pt [aS "self" 582,aS "cell" 583,aS "value" 584,aS "place" 585]) (n (Ziy P) (L ⟨aT "getset_descriptor",none,.fields #[aS "__weakref__" 1658,aR 1062,aF "ExceptionGroup.__weakref__",aN],#[]⟩) e) (L z)) (n pz (L (fz "infix" "OperatorTable.infix" (A 65 2) (B 65 2) (S 65 2))) (L (pt [aS "self" 1498,aS "cells" 1499,aS "number" 1500,aS "cell" 1501])))) (n pz (n pz (n pz (L (ZfH P)) e) (L (pt [aS "store" 1398,aS "left" 1399,aS "right" 1400]))) (n (fn "put" "Streams.put" (A 42 6) (B 42 6) (S 42 6) "clausemill.streams" 777 487) (L (cd "names_of" "Operators.names_of" 1202 531 2 0 0 3 739 true 181 740 aN (aR 741) (aR 742) (aR 743) 1207 531 1208)) (L pz))))) (n pz (n (o88 P) (n (pt [aS "atom_numbers" 375,aS "functor_numbers" 376,aS "functors" 377,aS "texts" 378]) (n pz (n (fz "output_text" "Streams.output_text" (A 42 13) (B 42 13) (S 42 13)) (L (pt [aS "self" 1626])) e) (L (fn "value" "Flags.value" (A 67 1) (B 67 1) (S 67 1) "clausemill.operators" 1047 791))) (n z (L (pt [aS "self" 1095,aS "symbols" 1096,aS "standard" 1097,aS "priority" 1098,aS "type_text" 1099,aS "names" 1100,aS "name" 1101])) (L pz))) (n z (n z (n (Zil P) (L (ZfO P)) e) (L pz)) (n (fz "open_file" "Streams.open_file" (A 42 4) (B 42 4) (S 42 4)) (L pz) (L z)))) (n pz (n (fz "system_error" "system_error" Zlq ZkQ Zkf) (n (fz "globalise" "Cells.globalise" ZdR Zdn ZcR) (n z (L (ZfV P)) e) (L ⟨aT "getset_descriptor",none,.fields #[aS "__dict__" 1322,aR 823,aF "function.__dict__",aF "function.__dict__#set"],#[]⟩)) (n pz (L (fn "is_operator" "OperatorTable.is_operator" (A 65 4) (B 65 4) (S 65 4) "clausemill.operators" 1047 695)) (L (fz "unify" "Areas.unify" ZdB Zc8 ZcC)))) (n pz (n (cd "new_block" "Cells.new_block" 674 241 2 0 0 3 371 true 181 372 aN (aR 373) (aR 374) (aR 375) 680 241 681) (n (Zh9 P) (L z) e) (L (fz "unify" "unify" Zk6 Zkw ZjV))) (n z (L pz) (L (cd "set_alternative" "Areas.set_alternative" 1585 735 2 0 0 3 1011 true 181 1012 aN (aR 1013) (aR 1014) (aR 1015) 1590 735 1591)))))))) (n ⟨aN,none,.fields #[aI 1 0,aI 0 0,aR 20,aI 5 0,aI 0 0,aR 27,aI 7 0,aI 0 0,aR 40,aI 18 0,aI 0 0,aR 59,aI 20 0,aI 0 0,aR 66,aI 22 0,aI 0 0,aR 73,aI 80 0,aI 0 0,aR 164,aI 82 0,aI 0 0,aR 171,aI 84 0,aI 0 0,aR 178,aI 86 0,aI 0 0,aR 185,aI 88 0,aI 0 0,aR 192,aI 93 0,aI 0 0,aR 199,aI 95 0,aI 0 0,aR 206,aI 97 0,aI 0 0,aR 213,aI 99 0,aI 0 0,aR 220,aI 101 0,aI 0 0,aR 227,aI 103 0,aI 0 0,aR 234,aI 117 0,aI 0 0,aR 242,aI 247 0,aI 0 0,aR 390,aI 333 0,aI 0 0,aR 438,aI 407 0,aI 0 0,aR 551,aI 410 0,aI 0 0,aR 558,aI 416 0,aI 0 0,aR 565,aI 429 0,aI 0 0,aR 572,aI 436 0,aI 0 0,aR 579,aI 443 0,aI 0 0,aR 586,aI 449 0,aI 0 0,aR 593,aI 453 0,aI 0 0,aR 600,aI 455 0,aI 0 0,aR 607,aI 457 0,aI 0 0,aR 614,aI 459 0,aI 0 0,aR 621,aI 461 0,aI 0 0,aR 628,aI 468 0,aI 0 0,aR 638,aI 470 0,aI 0 0,aR 645,aI 472 0,aI 0 0,aR 652,aI 480 0,aI 0 0,aR 659,aI 526 0,aI 0 0,aR 730,aI 542 0,aI 0 0,aR 777,aI 588 0,aI 0 0,aR 833,aI 600 0,aI 0 0,aR 861,aI 604 0,aI 0 0,aR 868,aI 609 0,aI 0 0,aR 875,aI 615 0,aI 0 0,aR 882,aI 617 0,aI 0 0,aR 889,aI 641 0,aI 0 0,aR 896,aI 646 0,aI 0 0,aR 903,aI 665 0,aI 0 0,aR 910,aI 756 0,aI 0 0,aR 1072,aI 762 0,aI 0 0,aR 1093,aI 768 0,aI 0 0,aR 1112,aI 779 0,aI 0 0,aR 1117,aI 785 0,aI 0 0,aR 1122,aI 789 0,aI 0 0,aR 1127,aI 799 0,aI 0 0,aR 1134,aI 801 0,aI 0 0,aR 1141,aI 808 0,aI 0 0,aR 1148,aI 835 0,aI 0 0,aR 1155,aI 848 0,aI 0 0,aR 1160],#[]⟩ (n (cd "_wall" "_wall" 187 1 1 0 0 3 15 true 181 16 aN (aR 17) (aR 18) (aR 19) 191 1 192) (n ⟨aT "builtin_function_or_method",none,.fields #[aF "type.__prepare__",aT "type"],#[]⟩ (n pz (n z (n z (n (fn "peek" "Streams.peek" (A 42 10) (B 42 10) (S 42 10) "clausemill.streams" 777 515) (L pz) e) (L pz)) (n pz (n (fz "flag_rows" "flag_rows" Zk9 Zkz ZjY) (L (ZfA P)) e) (L (pt [aS "store" 1439,aS "variable" 1440,aS "cell" 1441,aS "met" 1442,aS "work" 1443])))) (n (pt [aS "symbols" 432]) (n (pt [aS "self" 617,aS "mark" 618]) (n (Ziq P) (L ⟨aN,none,.fields #[aI 764 0,aI 4 0,aR 1100],#[]⟩) e) (L z)) (n (ZiJ P) (L (fz "add" "OperatorTable.add" ZdJ Zdf ZcJ)) (L (pt [aS "self" 1533,aS "term" 1534]))))) (n (fz "functor" "Symbols.functor" ZdZ Zdv ZcZ) (n (cd "atom" "atom" 389 80 1 0 0 3 159 true 181 160 aN (aR 161) (aR 162) (aR 163) 393 80 394) (n (Zi1 P) (n (pt [aS "symbols" 935,aS "number" 936]) (L (pt [aS "b" 1637,aS "b0" 1638,aS "bags" 1639,aS "code" 1640,aS "collect_wanted" 1641,aS "cp" 1642,aS "e" 1643,aS "guard" 1644,aS "max_bits" 1645,aS "max_heap" 1646,aS "mode" 1647,aS "occurs" 1648,aS "p" 1649,aS "roots" 1650,aS "s" 1651,aS "store" 1652,aS "symbols" 1653,aS "x" 1654])) e) (L (fz "put" "Flags.put" (A 67 3) (B 67 3) (S 67 3)))) (n (ZiQ P) (L pz) (L (Zhz P)))) (n (Zjc P) (n (fn "width" "Cells.width" (A 38 15) (B 38 15) (S 38 15) "clausemill.store" 482 355) (n pz (L pz) e) (L (cd "push_pairs" "push_pairs" 1382 604 4 0 0 3 863 true 181 864 aN (aR 865) (aR 866) (aR 867) 1392 604 1393))) (n (pt [aS "self" 847,aS "code" 848]) (L z) (L (fn "in_chain" "Areas.in_chain" (A 81 11) (B 81 11) (S 81 11) "clausemill.areas" 1447 995)))))) (n ⟨aT "super",none,.fields #[aR 51,aR 51,aR 51],#[]⟩ (n (pt [aS "self" 291,aS "text" 292,aS "found" 293,aS "number" 294]) (n pz (n pz (n pz (L (cd "cut_back" "Areas.cut_back" 1615 747 2 0 0 3 1039 true 181 1040 aN (aR 1041) (aR 1042) (aR 1043) 1620 747 1621)) e) (L (pt [aS "self" 1273,aS "name" 1274]))) (n (fz "build_list" "Store.build_list" (A 39 1) (B 39 1) (S 39 1)) (L ⟨aT "frame",none,.plain,#[some (aR 659),some (aR 3),some (aR 656),none,some (aS "clausemill.operators" 1047),none,some (aR 0)]⟩) (L pz))) (n (fz "domain_error" "domain_error" (A1 22) (B1 22) (S1 22)) (n (fz "is_compound" "Cells.is_compound" ZaR ZaO ZaL) (n z (L z) e) (L ⟨aT "getset_descriptor",none,.fields #[aS "__dict__" 1364,aR 851,aF "function.__dict__",aF "function.__dict__#set"],#[]⟩)) (n pz (L ⟨aT "builtin_function_or_method",none,.fields #[aF "object.__init_subclass__",aR 720],#[]⟩) (L (fz "push_environment" "Areas.push_environment" (A 81 9) (B 81 9) (S 81 9)))))) (n (fn "name" "Symbols.name" (A 13 5) (B 13 5) (S 13 5) "clausemill.symbols" 194 115) (n pz (n pz (n (fz "input_code" "input_code" Zlj ZkJ Zj8) (L (pt [aS "self" 1680,aS "streams" 1681,aS "operators" 1682,aS "flags" 1683])) e) (L (fn "set" "Flags.set" (A 67 5) (B 67 5) (S 67 5) "clausemill.operators" 1047 819))) (n pz (L (pt [aS "self" 1132,aS "a" 1133])) (L pz))) (n (Zja P) (n z (n (Zid P) (L (fz "_law_target" "_law_target" ZkY Zko ZjN)) e) (L pz)) (n (fz "write_text" "Streams.write_text" (A 42 8) (B 42 8) (S 42 8)) (L pz) (L z)))))) (n ⟨aT "frame",none,.plain,#[some (aR 27),some (aR 3),some (aR 24),none,some (aS "clausemill.symbols" 194),none,some (aR 0)]⟩ (n (pt [aS "self" 231,aS "ball" 232]) (n z (n (pt [aS "self" 361]) (n (pt [aS "self" 546,aS "count" 547,aS "first" 548,aS "step" 549]) (n pz (L (fz "pop_choice" "Areas.pop_choice" (A 81 17) (B 81 17) (S 81 17))) e) (L z)) (n (fz "new_struct" "Store.new_struct" (A 39 0) (B 39 0) (S 39 0)) (L (Zh6 P)) (L pz))) (n pz (n pz (n pz (L (ZfS P)) e) (L (pt [aS "self" 1354,aS "left" 1355,aS "right" 1356,aS "number" 1357]))) (n (ZiG P) (L (cd "rows" "OperatorTable.rows" 1157 520 1 0 0 3 711 true 181 712 aN (aR 713) (aR 714) (aR 715) 1165 520 1166)) (L pz)))) (n (Zjt P) (n (Zjo P) (n (ZiX P) (n pz (L ⟨aT "builtin_function_or_method",none,.fields #[aF "type.__prepare__",aT "type"],#[]⟩) e) (L (cd "rows" "Flags.rows" 1296 566 1 0 0 3 807 true 181 808 aN (aR 809) (aR 810) (aR 811) 1302 566 1303))) (n pz (L z) (L (Zhw P)))) (n (Zjb P) (n pz (n (fz "peek_character_code" "peek_character_code" Zlb ZkB Zj0) (L pz) e) (L (fn "same_shape" "same_shape" (A1 72) (B1 72) (S1 72) "clausemill.unify" 1329 875))) (n pz (L (pt [aS "self" 1213,aS "priority_term" 1214,aS "type_term" 1215,aS "name_term" 1216,aS "items" 1217])) (L pz))))) (n (o60 P) (n pz (n ⟨aT "getset_descriptor",none,.fields #[aS "__weakref__" 382,aR 154,aF "ExceptionGroup.__weakref__",aN],#[]⟩ (n (fz "deref" "Cells.deref" ZdU Zdq ZcU) (n (ZiB P) (L (fn "choices" "Areas.choices" (A 81 19) (B 81 19) (S 81 19) "clausemill.areas" 1447 1051)) e) (L pz)) (n (cd "list_cells" "Store.list_cells" 728 255 2 0 0 3 407 true 181 408 aN (aR 409) (aR 410) (aR 411) 733 255 734) (L (Zh2 P)) (L (fz "reset" "Areas.reset" ZdF Zdc ZcG)))) (n (Zjf P) (n (cd "functor_of" "Cells.functor_of" 639 215 2 0 0 3 343 true 181 344 aN (aR 345) (aR 346) (aR 347) 645 215 646) (n (pt [aS "m" 1014,aS "number" 1015,aS "first" 1016]) (L (fz "_law_error" "_law_error" Zk2 Zks ZjR)) e) (L (fz "push_arguments" "push_arguments" (A1 70) (B1 70) (S1 70)))) (n z (L pz) (L (cd "pop_environment" "Areas.pop_environment" 1553 723 1 0 0 3 983 true 181 984 aN (aR 985) (aR 986) (aR 987) 1557 723 1558))))) (n pz (n z (n z (n (Zit P) (L ⟨aT "getset_descriptor",none,.fields #[aS "__dict__" 1691,aR 1083,aF "function.__dict__",aF "function.__dict__#set"],#[]⟩) e) (L pz)) (n (fz "__init__" "Streams.__init__" ZdO Zdk ZcO) (L pz) (L z))) (n pz (n (Zcg P) (n pz (L (ZfC P)) e) (L z)) (n (cd "get" "Streams.get" 869 385 1 0 0 3 503 true 181 504 aN (aR 505) (aR 506) (aR 507) 874 385 875) (L (fz "check_permission" "Operators.check_permission" (A 66 4) (B 66 4) (S 66 4))) (L (pt [aS "self" 1596,aS "part" 1597]))))))))) (n ⟨aT "dict",none,(.dict #[] 0),#[]⟩ (n b4 (n pz (n ⟨aT "builtin_function_or_method",none,.fields #[aF "object.__init_subclass__",aR 31],#[]⟩ (n (o66 P) (n (fn "label" "Symbols.label" (A 13 7) (B 13 7) (S 13 7) "clausemill.symbols" 194 129) (n (Zi6 P) (n (fz "peek" "Streams.peek" (A 42 10) (B 42 10) (S 42 10)) (L z) e) (L ⟨aT "super",none,.fields #[aR 769,aR 769,aR 769],#[]⟩)) (n ⟨aT "builtin_function_or_method",none,.fields #[aF "type.__prepare__",aT "type"],#[]⟩ (n pz (L (fz "_law_read" "_law_read" ZkW Zc4 ZgI)) e) (L pz))) (n pz (n pz (n (fz "check_code_target" "check_code_target" Zlh ZkH Zj6) (L ⟨aT "dict",none,(.dict #[de P "__module__" 1705 (aS "clausemill.hosted" 1663),de P "__qualname__" 1707 (aS "HostedAreas" 1706),de P "__firstlineno__" 1709 (aI 762 1708),de P "__init__" 1720 (aR 1101),de P "__static_attributes__" 1722 (aR 1102)] 5),#[]⟩) e) (L ⟨aT "frame",none,.plain,#[some (aR 833),some (aR 3),some (aR 830),none,some (aS "clausemill.unify" 1329),none,some (aR 0)]⟩)) (n pz (L (pt [aS "self" 1149,aS "priority" 1150,aS "type_text" 1151,aS "a" 1152,aS "table" 1153])) (L pz)))) (n (pt [aS "self" 309,aS "atom" 310,aS "arity" 311,aS "key" 312,aS "found" 313,aS "number" 314]) (n pz (n pz (n pz (L (cd "environments" "Areas.environments" 1630 753 1 0 0 3 1053 true 181 1054 aN (aR 1055) (aR 1056) (aR 1057) 1634 753 1635)) e) (L (pt [aS "self" 1290,aS "name" 1291,aS "text" 1292]))) (n (fz "put_term" "Store.put_term" ZdQ Zdm ZcQ) (L (cd "prefix" "OperatorTable.prefix" 1105 493 2 0 0 3 669 true 181 670 aN (aR 671) (aR 672) (aR 673) 1110 493 1111)) (L pz))) (n (fz "representation_error" "representation_error" Zlm ZkM Zkb) (n (fz "width" "Cells.width" (A 38 15) (B 38 15) (S 38 15)) (n z (L (ZfK P)) e) (L pz)) (n pz (L (fn "declare" "Operators.declare" (A 66 0) (B 66 0) (S 66 0) "clausemill.operators" 1047 737)) (L (fz "in_chain" "Areas.in_chain" (A 81 11) (B 81 11) (S 81 11))))))) (n (o50 P) (n pz (n z (n z (n (ZiC P) (L pz) e) (L pz)) (n (pt [aS "self" 722,aS "cells" 723,aS "tail" 724]) (L ⟨aN,none,.fields #[aI 482 0,aI 4 0,aR 667,aI 493 0,aI 4 0,aR 674,aI 496 0,aI 4 0,aR 681,aI 499 0,aI 4 0,aR 688,aI 502 0,aI 4 0,aR 695,aI 505 0,aI 4 0,aR 702,aI 513 0,aI 4 0,aR 709,aI 520 0,aI 4 0,aR 716],#[]⟩) (L z))) (n (pt [aS "symbols" 448,aS "kind" 449,aS "culprit" 450]) (n (pt [aS "self" 634,aS "cell" 635]) (n (Zim P) (L ⟨aT "builtin_function_or_method",none,.fields #[aF "object.__init_subclass__",aR 1104],#[]⟩) e) (L (ZhO P))) (n (cd "open_output" "Streams.open_output" 818 356 1 0 0 3 461 true 181 462 aN (aR 463) (aR 464) (aR 465) 822 356 823) (L ⟨aT "getset_descriptor",none,.fields #[aS "__weakref__" 1175,aR 720,aF "ExceptionGroup.__weakref__",aN],#[]⟩) (L (pt [aS "self" 1548,aS "size" 1549]))))) (n (fz "name" "Symbols.name" (A 13 5) (B 13 5) (S 13 5)) (n (Zjn P) (n (cd "bind_pair" "Cells.bind_pair" 589 182 3 0 0 3 301 true 181 302 aN (aR 303) (aR 304) (aR 305) 595 182 596) (n (pt [aS "m" 955,aS "number" 956,aS "consume" 957,aS "streams" 958,aS "ended" 959,aS "code" 960]) (L pz) e) (L (fz "set" "Flags.set" (A 67 5) (B 67 5) (S 67 5)))) (n ⟨aT "builtin_function_or_method",none,.fields #[aF "type.__prepare__",aT "type"],#[]⟩ (L pz) (L (Zhv P)))) (n (cd "Cells" "Cells" 506 117 0 0 0 0 240 false 181 241 aN aN aN aN 509 117 510) (n (fn "arg" "Cells.arg" (A 38 17) (B 38 17) (S 38 17) "clausemill.store" 482 369) (n pz (L (pt [aS "hand" 1767,aS "names" 1768,aS "chars" 1769,aS "kind" 1770])) e) (L (ZhM P))) (n (pt [aS "self" 863,aS "number" 864,aS "text" 865]) (L z) (L (fn "push_choice" "Areas.push_choice" (A 81 13) (B 81 13) (S 81 13) "clausemill.areas" 1447 1009))))))) (n z (n pz (n ⟨aT "frame",none,.plain,#[some (aR 73),some (aR 3),some (aR 70),none,some (aS "clausemill.symbols" 194),none,some (aR 0)]⟩ (n pz (n pz (n (ZiF P) (L (pt [aS "self" 1611])) e) (L ⟨aT "frame",none,.plain,#[some (aR 777),some (aR 3),some (aR 774),none,some (aS "clausemill.operators" 1047),none,some (aR 0)]⟩)) (n (pt [aS "self" 713,aS "f" 714,aS "cells" 715]) (L pz) (L ⟨aT "builtin_function_or_method",none,.fields #[aF "type.__prepare__",aT "type"],#[]⟩))) (n z (n z (n (Zip P) (L pz) e) (L pz)) (n (fz "open_input" "Streams.open_input" ZdM Zdi ZcM) (L pz) (L z)))) (n pz (n (fz "integer" "integer" Zls ZkS Zkh) (n (fz "bind" "Cells.bind" ZdS Zdo ZcS) (n z (L ⟨aT "builtin_function_or_method",none,.fields #[aF "object.__init_subclass__",aR 1062],#[]⟩) e) (L pz)) (n (ZiP P) (L (fn "infix" "OperatorTable.infix" (A 65 2) (B 65 2) (S 65 2) "clausemill.operators" 1047 681)) (L (fz "set_arguments" "Areas.set_arguments" ZdD Zda ZcE)))) (n (cd "resource_error" "resource_error" 472 103 2 0 0 3 229 true 181 230 aN (aR 231) (aR 232) (aR 233) 477 103 478) (n (cd "base" "Cells.base" 657 233 2 0 0 3 357 true 181 358 aN (aR 359) (aR 360) (aR 361) 662 233 663) (n (pt [aS "m" 1032,aS "number" 1033,aS "first" 1034]) (L z) e) (L (fz "same_shape" "same_shape" (A1 72) (B1 72) (S1 72)))) (n z (L pz) (L (cd "set_choice" "Areas.set_choice" 1568 729 2 0 0 3 997 true 181 998 aN (aR 999) (aR 1000) (aR 1001) 1573 729 1574)))))) (n (fz "fixed_atoms" "fixed_atoms" Zlu ZkU Zkj) (n z (n (Zjq P) (n (pt [aS "self" 564,aS "cell" 565,aS "tag" 566,aS "found" 567]) (n ⟨aT "function",none,(.func ⟨(.ofString "output_text"),(.ofString "Streams.output_text"),(A 42 13),.stmts (B 42 13),(S 42 13),3,[],aR 531,aN,aN,aS "clausemill.streams" 777,none,aR 537,aN,0⟩),#[]⟩ (L (fz "choices" "Areas.choices" (A 81 19) (B 81 19) (S 81 19))) e) (L z)) (n pz (L (fz "__init__" "OperatorTable.__init__" ZdL Zdh ZcL)) (L (pt [aS "self" 1482])))) (n pz (n pz (n pz (L pz) e) (L (pt [aS "store" 1374,aS "cell" 1375,aS "work" 1376,aS "place" 1377,aS "step" 1378]))) (n (fn "open_file" "Streams.open_file" (A 42 4) (B 42 4) (S 42 4) "clausemill.streams" 777 473) (L (cd "Operators" "Operators" 1182 526 0 0 0 0 728 false 181 729 aN aN aN aN 1185 526 1186)) (L pz)))) (n (cd "arity" "Symbols.arity" 335 62 2 0 0 3 117 true 181 118 aN (aR 119) (aR 120) (aR 121) 340 62 341) (n (Zjk P) (n (ZiV P) (n pz (L (ZfU P)) e) (L ⟨aT "super",none,.fields #[aR 823,aR 823,aR 823],#[]⟩)) (n (pt [aS "self" 797]) (L z) (L (Zhs P)))) (n (Zi9 P) (n (pt [aS "bb" 683,aS "hb" 684,aS "heap" 685,aS "max_heap" 686,aS "stack" 687,aS "symbols" 688,aS "trail" 689]) (n z (L pz) e) (L (ZhJ P))) (n pz (L (pt [aS "self" 1235,aS "priority" 1236,aS "type_text" 1237,aS "a" 1238])) (L pz))))))) (n b5 (n (pt [aT "Exception"]) (n pz (n ⟨aT "dict",none,(.dict #[de P "__module__" 274 (aS "clausemill.symbols" 194),de P "__qualname__" 276 (aS "Symbols" 275),de P "__firstlineno__" 278 (aI 22 277),de P "__init__" 287 (aR 81),de P "atom" 297 (aR 88),de P "text" 305 (aR 95),de P "functor" 317 (aR 102),de P "func" 326 (aR 109),de P "name" 334 (aR 116),de P "arity" 342 (aR 123),de P "label" 350 (aR 130),de P "count" 357 (aR 137),de P "functor_count" 364 (aR 144),de P "known" 374 (aR 151),de P "__static_attributes__" 379 (aR 152)] 15),#[]⟩ (n pz (n pz (n z (L (cd "restore_choice" "Areas.restore_choice" 1601 741 1 0 0 3 1025 true 181 1026 aN (aR 1027) (aR 1028) (aR 1029) 1605 741 1606)) e) (L ⟨aT "dict",none,(.dict #[de P "__module__" 1253 (aS "clausemill.operators" 1047),de P "__qualname__" 1255 (aS "Flags" 1254),de P "__firstlineno__" 1257 (aI 542 1256),de P "__init__" 1269 (aR 785),de P "value" 1277 (aR 792),de P "is_value" 1286 (aR 799),de P "put" 1295 (aR 806),de P "rows" 1304 (aR 813),de P "set" 1316 (aR 820),de P "__static_attributes__" 1321 (aR 821)] 10),#[]⟩)) (n (cd "Store" "Store" 700 247 0 0 0 0 388 false 181 389 aN aN aN aN 703 247 704) (n (Zh7 P) (L z) e) (L (fz "occurs_in" "occurs_in" Zk4 Zku ZjT)))) (n (fz "instantiation_error" "instantiation_error" (A1 20) (B1 20) (S1 20)) (n (fz "undo_to" "Cells.undo_to" (A 38 11) (B 38 11) (S 38 11)) (n z (L ⟨aT "frame",none,.plain,#[some (aR 1093),some (aR 3),some (aR 1090),none,some (aS "clausemill.hosted" 1663),none,some (aR 0)]⟩) e) (L pz)) (n pz (L (ZhY P)) (L (fz "put" "Areas.put" (A 81 7) (B 81 7) (S 81 7)))))) (n (Zju P) (n pz (n pz (n (fz "stream_term" "stream_term" Zll ZkL Zka) (L (G2 P)) e) (L (fn "put" "Flags.put" (A 67 3) (B 67 3) (S 67 3) "clausemill.operators" 1047 805))) (n z (L (pt [aS "self" 1116,aS "a" 1117])) (L pz))) (n z (n z (n (Zih P) (L (fz "_law_asked" "_law_asked" Zk0 Zkq ZjP)) e) (L pz)) (n (fz "put" "Streams.put" (A 42 6) (B 42 6) (S 42 6)) (L pz) (L z))))) (n pz (n (fz "atom" "Symbols.atom" Zd1 Zdx Zc1) (n (cd "known" "Symbols.known" 365 74 3 0 0 3 145 true 181 146 aN (aR 147) (aR 148) (aR 149) 372 74 373) (n (cd "trim" "Cells.trim" 553 148 2 0 0 3 273 true 181 274 aN (aR 275) (aR 276) (aR 277) 558 148 559) (n (pt [aS "self" 908,aS "number" 909]) (L pz) e) (L (fz "value" "Flags.value" (A 67 1) (B 67 1) (S 67 1)))) (n ⟨aT "function",none,(.func ⟨(.ofString "build_list"),(.ofString "Store.build_list"),(A 39 1),.stmts (B 39 1),(S 39 1),3,[],aR 399,aN,aN,aS "clausemill.store" 482,none,aR 405,aN,0⟩),#[]⟩ (L pz) (L (ZhD P)))) (n (fn "domain_error" "domain_error" (A1 22) (B1 22) (S1 22) "clausemill.terms" 387 213) (n (ZiT P) (n pz (L pz) e) (L ⟨aT "super",none,.fields #[aR 851,aR 851,aR 851],#[]⟩)) (n (pt [aS "self" 828,aS "name" 829,aS "mode" 830]) (L ⟨aT "builtin_function_or_method",none,.fields #[aF "type.__prepare__",aT "type"],#[]⟩) (L (fn "push_environment" "Areas.push_environment" (A 81 9) (B 81 9) (S 81 9) "clausemill.areas" 1447 981))))) (n z (n (pt [aS "formal" 414]) (n (pt [aS "self" 601,aS "cell" 602,aS "fresh" 603]) (n (Ziu P) (L (fz "__init__" "Surroundings.__init__" Zdz Zc6 ZcA)) e) (L (ZhS P))) (n (cd "Streams" "Streams" 784 333 0 0 0 0 436 false 181 437 aN aN aN aN 787 333 788) (L (fz "is_operator" "OperatorTable.is_operator" (A 65 4) (B 65 4) (S 65 4))) (L (pt [aS "self" 1516,aS "c1" 1517,aS "c2" 1518])))) (n z (n pz (n (Zib P) (L (ZfD P)) e) (L (pt [aS "store" 1414,aS "c1" 1415,aS "c2" 1416,aS "occurs" 1417,aS "met" 1418,aS "work" 1419,aS "left" 1420,aS "right" 1421]))) (n (fn "write_text" "Streams.write_text" (A 42 8) (B 42 8) (S 42 8) "clausemill.streams" 777 501) (L (cd "check_types" "Operators.check_types" 1221 537 5 0 0 3 753 true 181 754 aN (aR 755) (aR 756) (aR 757) 1229 537 1230)) (L pz)))))) (n (o30 P) (n (fz "__init__" "PrologError.__init__" Zf3 Zf2 Zf1) (n pz (n (fz "functor_count" "Symbols.functor_count" (A 13 9) (B 13 9) (S 13 9)) (n (fz "reserve" "Cells.reserve" (A 38 3) (B 38 3) (S 38 3)) (n (pt [aS "self" 897,aS "number" 898,aS "codes" 899,aS "place" 900]) (L (fn "pop_choice" "Areas.pop_choice" (A 81 17) (B 81 17) (S 81 17) "clausemill.areas" 1447 1037)) e) (L pz)) (n (fn "new_struct" "Store.new_struct" (A 39 0) (B 39 0) (S 39 0) "clausemill.store" 482 397) (L pz) (L (cd "Areas" "Areas" 1455 665 0 0 0 0 908 false 181 909 aN aN aN aN 1458 665 1459)))) (n (Zjh P) (n (cd "stack_put" "Cells.stack_put" 622 209 3 0 0 3 329 true 181 330 aN (aR 331) (aR 332) (aR 333) 628 209 629) (n (pt [aS "m" 994,aS "number" 995,aS "place" 996,aS "consume" 997,aS "code" 998]) (L (pt [aS "database" 1721])) e) (L (fz "add" "PairSet.add" (A 69 1) (B 69 1) (S 69 1)))) (n z (L (pt [aS "infixes" 1168,aS "postfixes" 1169,aS "prefixes" 1170,aS "symbols" 1171])) (L (cd "top" "Areas.top" 1538 713 1 0 0 3 969 true 181 970 aN (aR 971) (aR 972) (aR 973) 1542 713 1543))))) (n pz (n z (n z (n (Zix P) (L pz) e) (L pz)) (n (ZiM P) (L pz) (L z))) (n ⟨aT "builtin_function_or_method",none,.fields #[aF "type.__prepare__",aT "type"],#[]⟩ (n (pt [aS "self" 668,aS "cell" 669,aS "i" 670]) (n (Zie P) (L (ZfG P)) e) (L z)) (n (cd "put_text" "Streams.put_text" 852 379 2 0 0 3 489 true 181 490 aN (aR 491) (aR 492) (aR 493) 857 379 858) (L (fz "check_instantiated" "Operators.check_instantiated" (A 66 2) (B 66 2) (S 66 2))) (L (pt [aS "self" 1579,aS "cells" 1580,aS "alternative" 1581])))))) (n z (n (o94 P) (n ⟨aT "builtin_function_or_method",none,.fields #[aF "object.__init_subclass__",aR 154],#[]⟩ (n (Zi2 P) (n ⟨aT "getset_descriptor",none,.fields #[aS "__dict__" 923,aR 541,aF "function.__dict__",aF "function.__dict__#set"],#[]⟩ (L z) e) (L (cd "is_value" "Flags.is_value" 1278 560 3 0 0 3 793 true 181 794 aN (aR 795) (aR 796) (aR 797) 1284 560 1285))) (n pz (L z) (L (ZhA P)))) (n pz (n pz (n (fz "peek_character" "peek_character" Zld ZkD Zj2) (L (ZfL P)) e) (L (fn "push_arguments" "push_arguments" (A1 70) (B1 70) (S1 70) "clausemill.unify" 1329 861))) (n pz (L (pt [aS "self" 1195,aS "priority_term" 1196,aS "type_term" 1197,aS "name_term" 1198])) (L pz)))) (n (pt [aS "self" 346,aS "functor" 347]) (n pz (n pz (n pz (L ⟨aT "super",none,.fields #[aR 1083,aR 1083,aR 1083],#[]⟩) e) (L ⟨aT "dict",none,(.dict #[de P "__module__" 1338 (aS "clausemill.unify" 1329),de P "__qualname__" 1340 (aS "PairSet" 1339),de P "__firstlineno__" 1342 (aI 588 1341),de P "__init__" 1350 (aR 841),de P "add" 1360 (aR 848),de P "__static_attributes__" 1363 (aR 849)] 6),#[]⟩)) (n (ZiK P) (L (Zh1 P)) (L pz))) (n (pt [aS "self" 529,aS "cell" 530,aS "address" 531]) (n ⟨aT "getset_descriptor",none,.fields #[aS "__weakref__" 693,aR 380,aF "ExceptionGroup.__weakref__",aN],#[]⟩ (n (cd "standard_rows" "standard_rows" 1061 468 0 0 0 3 633 true 181 634 aN (aR 635) (aR 636) (aR 637) 1064 468 1065) (L pz) e) (L pz)) (n pz (L (fn "check_permission" "Operators.check_permission" (A 66 4) (B 66 4) (S 66 4) "clausemill.operators" 1047 765)) (L (fz "choice_part" "Areas.choice_part" (A 81 15) (B 81 15) (S 81 15))))))))))))
@[reducible] noncomputable def bE:List Stmt:=behindTheImports PR
@[reducible] noncomputable def W1:Env:={scope:=PR.main.scope,locals:=mainNs,globals:=mainNs,cells:=[],code:=aR 13,frame:=some 14}
@[reducible] noncomputable def cE:Code :=.body bE W1
@[reducible] noncomputable def p0:Pos:=⟨0,0,0,0⟩
@[reducible] noncomputable def BF:List Frame:=[topFrame p0]
@[reducible] noncomputable def Zae:Option Value:=some (aR 6)
@[reducible] noncomputable def stT (t:Params→BT)(k:Nat)(tk:Nat)(w:World)(os:OsState):SharedT:=⟨t w.params,k,{},#[],{},tk,os⟩
theorem Zg4:@segRunT=PySem.W.Fast.tw10110043849684766642:=PySem.W.Fast.te10110043849684766642
theorem Zfl:treeTable=PySem.W.Fast.tw14364793385576792824:=PySem.W.Fast.te14364793385576792824
theorem Zes:@execs=PySem.W.Fast.tw12563942051412417395:=PySem.W.Fast.te12563942051412417395
@[reducible] noncomputable def s0:=stT t0 15 187
@[reducible] noncomputable def q1:Pos:=⟨848,0,876,40⟩
@[reducible] noncomputable def s1:=stT t20 1162 1808
@[reducible] noncomputable def ZeD:List Stmt:=(PR.main.body.drop 0).take 95
theorem pc0 (w:World)(os:OsState):segRunT treeTable PR w 11 Zae 1 7471 (s0 w os) (piecesOf ZeD W1 cE p0 BF)=some (.next,s1 w os,cE,q1):=by
  show segRunT treeTable PR w 11 Zae 1 7471 (s0 w os) ⟨(execs ZeD W1).wrap doneF deadEnd id id,cE,p0,BF⟩=_
  rw [Zg4,Zfl,Zes]
  kernel_rfl
end
section
open PySem PySem.W PySem.Calls PyProof.Rows
theorem ZgG:∀ w:World,(fencedOpening treeTable PR w 20000).map (fun s=>(s.heap,s.gens,s.drawn,s.toks))=some (boot_heap w.params,Array.mk [],boot_drawn,boot_toks) :=
  boot_open (by kernel_rfl) (by kernel_rfl) (fun s=>by kernel_rfl)
theorem Zer:@topGo=PySem.W.Fast.tw15667345088766844465:=PySem.W.Fast.te15667345088766844465
theorem Zg5:@denote=PySem.W.Fast.tw11892475500146522536:=PySem.W.Fast.te11892475500146522536
theorem ZgF:∀ w:World,((boot_heap w.params).isNs mainGlobals&&(Array.mk []:Array GenState).size==0,(boot_heap w.params).objs.size,(boot_heap w.params).nsMap mainGlobals "__annotations__")=(true,11,Zae):=by
  intro w
  kernel_rfl
theorem ZjL (w:World)(os:OsState):topGo treeTable PR w 11 Zae 12 ⟨boot_heap w.params,Array.mk [],boot_drawn,boot_toks,os⟩ (topStub PR)=some ((s0 w os).abs,⟨denote treeTable cE,cE,p0,BF⟩):=by
  rw [Zer,Zg5,Zfl]
  kernel_rfl
theorem ZjM (w:World)(os:OsState):topRun treeTable PR w 11 Zae 2 (s1 w os).abs ⟨doneF .next,cE,q1,BF⟩=some (s1 w os).abs:=by
  kernel_rfl
theorem Ze1 (w:World)(os:OsState):segRun treeTable PR w 11 Zae 1 1 (s0 w os).abs (blockOf bE W1 cE p0 BF)=some (.next,(s0 w os).abs,cE,p0):=by
  kernel_rfl
theorem Ze0:bE=ZeD++[]:=by
  kernel_rfl
end
section
open PySem PySem.W PySem.Calls PyProof.Rows
theorem ZjK (w:World)(os:OsState):topRun treeTable PR w 11 Zae (12+(1+(7471+2))) ⟨boot_heap w.params,Array.mk [],boot_drawn,boot_toks,os⟩ (topStub PR)=some (s1 w os).abs:=by
  refine go_top (ZjL w os) (piece_block (Ze1 w os) ?_)
  rw [show restOf bE W1 cE p0 BF=restOf (ZeD++[]) W1 cE p0 BF from congrArg (fun l=>restOf l W1 cE p0 BF) Ze0]
  exact (piece_app (segRun_of (pc0 w os)) (piece_nil (ZjM w os)))
noncomputable def K (P:Params):Frag:=(nat_lit 2,ZiY P)::(nat_lit 3,Zfw P)::(nat_lit 30,o30 P)::(nat_lit 31,Zfx P)::(nat_lit 47,o47 P)::(nat_lit 48,o48 P)::(nat_lit 50,o50 P)::(nat_lit 51,o51 P)::(nat_lit 59,o59 P)::(nat_lit 60,o60 P)::(nat_lit 66,o66 P)::(nat_lit 67,o67 P)::(nat_lit 80,o80 P)::(nat_lit 81,o81 P)::(nat_lit 87,o87 P)::(nat_lit 88,o88 P)::(nat_lit 94,o94 P)::(nat_lit 95,o95 P)::(nat_lit 101,Zjv P)::(nat_lit 102,Zju P)::(nat_lit 108,Zjt P)::(nat_lit 109,Zjs P)::(nat_lit 153,Zjr P)::(nat_lit 154,Zjq P)::(nat_lit 171,Zjp P)::(nat_lit 172,Zjo P)::(nat_lit 178,Zjn P)::(nat_lit 179,Zjm P)::(nat_lit 185,Zjl P)::(nat_lit 186,Zjk P)::(nat_lit 192,Zjj P)::(nat_lit 193,Zji P)::(nat_lit 206,Zjh P)::(nat_lit 207,Zjg P)::(nat_lit 220,Zjf P)::(nat_lit 221,Zje P)::(nat_lit 227,Zjd P)::(nat_lit 228,Zjc P)::(nat_lit 236,Zjb P)::(nat_lit 244,Zja P)::(nat_lit 250,Zi9 P)::(nat_lit 251,Zi8 P)::(nat_lit 257,Zi7 P)::(nat_lit 258,Zi6 P)::(nat_lit 264,Zi5 P)::(nat_lit 265,Zi4 P)::(nat_lit 285,Zi3 P)::(nat_lit 286,Zi2 P)::(nat_lit 292,Zi1 P)::(nat_lit 293,Zi0 P)::(nat_lit 299,ZiZ P)::(nat_lit 300,ZiX P)::(nat_lit 313,ZiW P)::(nat_lit 314,ZiV P)::(nat_lit 341,ZiU P)::(nat_lit 342,ZiT P)::(nat_lit 379,ZiS P)::(nat_lit 380,Zcg P)::(nat_lit 419,ZiR P)::(nat_lit 420,ZiQ P)::(nat_lit 426,ZiP P)::(nat_lit 427,ZiO P)::(nat_lit 429,ZiN P)::(nat_lit 430,ZiM P)::(nat_lit 445,ZiL P)::(nat_lit 446,ZiK P)::(nat_lit 452,ZiJ P)::(nat_lit 453,ZiI P)::(nat_lit 459,ZiH P)::(nat_lit 460,ZiG P)::(nat_lit 522,ZiF P)::(nat_lit 523,ZiE P)::(nat_lit 529,ZiD P)::(nat_lit 530,ZiC P)::(nat_lit 540,ZiB P)::(nat_lit 541,ZiA P)::(nat_lit 551,Ziz P)::(nat_lit 552,Ziy P)::(nat_lit 558,Zix P)::(nat_lit 559,Ziw P)::(nat_lit 565,Ziv P)::(nat_lit 566,Ziu P)::(nat_lit 572,Zit P)::(nat_lit 573,Zis P)::(nat_lit 579,Zir P)::(nat_lit 580,Ziq P)::(nat_lit 586,Zip P)::(nat_lit 587,Zio P)::(nat_lit 593,Zin P)::(nat_lit 594,Zim P)::(nat_lit 600,Zil P)::(nat_lit 601,Zik P)::(nat_lit 607,Zij P)::(nat_lit 608,Zii P)::(nat_lit 614,Zih P)::(nat_lit 615,Zig P)::(nat_lit 621,Zif P)::(nat_lit 622,Zie P)::(nat_lit 628,Zid P)::(nat_lit 629,Zic P)::(nat_lit 630,Zib P)::(nat_lit 631,Zia P)::(nat_lit 632,Zh9 P)::(nat_lit 645,Zh8 P)::(nat_lit 646,Zh7 P)::(nat_lit 652,Zh6 P)::(nat_lit 653,Zh5 P)::(nat_lit 661,Zh4 P)::(nat_lit 667,Zh3 P)::(nat_lit 668,Zh2 P)::(nat_lit 702,Zh1 P)::(nat_lit 703,Zh0 P)::(nat_lit 709,ZhZ P)::(nat_lit 710,ZhY P)::(nat_lit 719,ZhX P)::(nat_lit 720,Zaw P)::(nat_lit 768,ZhW P)::(nat_lit 769,ZhV P)::(nat_lit 784,ZhU P)::(nat_lit 785,ZhT P)::(nat_lit 822,ZhS P)::(nat_lit 823,ZhR P)::(nat_lit 840,ZhQ P)::(nat_lit 841,ZhP P)::(nat_lit 850,ZhO P)::(nat_lit 851,ZhN P)::(nat_lit 882,ZhM P)::(nat_lit 883,ZhL P)::(nat_lit 889,ZhK P)::(nat_lit 890,ZhJ P)::(nat_lit 896,ZhI P)::(nat_lit 897,ZhH P)::(nat_lit 903,ZhG P)::(nat_lit 904,ZhF P)::(nat_lit 912,ZhE P)::(nat_lit 918,ZhD P)::(nat_lit 919,ZhC P)::(nat_lit 925,ZhB P)::(nat_lit 926,ZhA P)::(nat_lit 932,Zhz P)::(nat_lit 933,Zhy P)::(nat_lit 939,Zhx P)::(nat_lit 940,Zhw P)::(nat_lit 946,Zhv P)::(nat_lit 947,Zhu P)::(nat_lit 953,Zht P)::(nat_lit 954,Zhs P)::(nat_lit 960,Zhr P)::(nat_lit 961,Zhq P)::(nat_lit 1061,ZfX P)::(nat_lit 1062,G2 P)::(nat_lit 1079,ZfW P)::(nat_lit 1080,ZfV P)::(nat_lit 1082,ZfU P)::(nat_lit 1083,ZfT P)::(nat_lit 1100,ZfS P)::(nat_lit 1101,ZfR P)::(nat_lit 1103,ZfQ P)::(nat_lit 1104,ZfP P)::(nat_lit 1112,ZfO P)::(nat_lit 1113,ZfN P)::(nat_lit 1117,ZfM P)::(nat_lit 1118,ZfL P)::(nat_lit 1122,ZfK P)::(nat_lit 1123,ZfJ P)::(nat_lit 1127,ZfI P)::(nat_lit 1128,ZfH P)::(nat_lit 1134,ZfG P)::(nat_lit 1135,ZfF P)::(nat_lit 1141,ZfE P)::(nat_lit 1142,ZfD P)::(nat_lit 1148,ZfC P)::(nat_lit 1149,ZfB P)::(nat_lit 1155,Zax P)::(nat_lit 1156,ZfA P)::(nat_lit 1160,Zfz P)::(nat_lit 1161,Zfy P)::[]
noncomputable def Kas:List Addr:=[nat_lit 2,nat_lit 3,nat_lit 30,nat_lit 31,nat_lit 47,nat_lit 48,nat_lit 50,nat_lit 51,nat_lit 59,nat_lit 60,nat_lit 66,nat_lit 67,nat_lit 80,nat_lit 81,nat_lit 87,nat_lit 88,nat_lit 94,nat_lit 95,nat_lit 101,nat_lit 102,nat_lit 108,nat_lit 109,nat_lit 153,nat_lit 154,nat_lit 171,nat_lit 172,nat_lit 178,nat_lit 179,nat_lit 185,nat_lit 186,nat_lit 192,nat_lit 193,nat_lit 206,nat_lit 207,nat_lit 220,nat_lit 221,nat_lit 227,nat_lit 228,nat_lit 236,nat_lit 244,nat_lit 250,nat_lit 251,nat_lit 257,nat_lit 258,nat_lit 264,nat_lit 265,nat_lit 285,nat_lit 286,nat_lit 292,nat_lit 293,nat_lit 299,nat_lit 300,nat_lit 313,nat_lit 314,nat_lit 341,nat_lit 342,nat_lit 379,nat_lit 380,nat_lit 419,nat_lit 420,nat_lit 426,nat_lit 427,nat_lit 429,nat_lit 430,nat_lit 445,nat_lit 446,nat_lit 452,nat_lit 453,nat_lit 459,nat_lit 460,nat_lit 522,nat_lit 523,nat_lit 529,nat_lit 530,nat_lit 540,nat_lit 541,nat_lit 551,nat_lit 552,nat_lit 558,nat_lit 559,nat_lit 565,nat_lit 566,nat_lit 572,nat_lit 573,nat_lit 579,nat_lit 580,nat_lit 586,nat_lit 587,nat_lit 593,nat_lit 594,nat_lit 600,nat_lit 601,nat_lit 607,nat_lit 608,nat_lit 614,nat_lit 615,nat_lit 621,nat_lit 622,nat_lit 628,nat_lit 629,nat_lit 630,nat_lit 631,nat_lit 632,nat_lit 645,nat_lit 646,nat_lit 652,nat_lit 653,nat_lit 661,nat_lit 667,nat_lit 668,nat_lit 702,nat_lit 703,nat_lit 709,nat_lit 710,nat_lit 719,nat_lit 720,nat_lit 768,nat_lit 769,nat_lit 784,nat_lit 785,nat_lit 822,nat_lit 823,nat_lit 840,nat_lit 841,nat_lit 850,nat_lit 851,nat_lit 882,nat_lit 883,nat_lit 889,nat_lit 890,nat_lit 896,nat_lit 897,nat_lit 903,nat_lit 904,nat_lit 912,nat_lit 918,nat_lit 919,nat_lit 925,nat_lit 926,nat_lit 932,nat_lit 933,nat_lit 939,nat_lit 940,nat_lit 946,nat_lit 947,nat_lit 953,nat_lit 954,nat_lit 960,nat_lit 961,nat_lit 1061,nat_lit 1062,nat_lit 1079,nat_lit 1080,nat_lit 1082,nat_lit 1083,nat_lit 1100,nat_lit 1101,nat_lit 1103,nat_lit 1104,nat_lit 1112,nat_lit 1113,nat_lit 1117,nat_lit 1118,nat_lit 1122,nat_lit 1123,nat_lit 1127,nat_lit 1128,nat_lit 1134,nat_lit 1135,nat_lit 1141,nat_lit 1142,nat_lit 1148,nat_lit 1149,nat_lit 1155,nat_lit 1156,nat_lit 1160,nat_lit 1161]
theorem Zei (P:Params):Kas=(K P).map (·.1):=by kernel_rfl
@[reducible] noncomputable def Gu:Program:={PR with main:={PR.main with body:=[Gf PR.main.body 94] } }
@[reducible] noncomputable def loose:List Str:=[.ofString "_wall",.ofString "ClausemillError",.ofString "PrologError",.ofString "A_NIL",.ofString "A_COMMA",.ofString "A_EOF",.ofString "A_SYSTEM",.ofString "F_DOT",.ofString "F_PLUS",.ofString "F_ERROR",.ofString "fixed_atoms",.ofString "fixed_functors",.ofString "Symbols",.ofString "atom",.ofString "integer",.ofString "struct",.ofString "system_error",.ofString "formal_of",.ofString "instantiation_error",.ofString "type_error",.ofString "domain_error",.ofString "permission_error",.ofString "representation_error",.ofString "resource_error",.ofString "MAX_CODE",.ofString "REF",.ofString "SRF",.ofString "STR",.ofString "LIS",.ofString "CON",.ofString "INT",.ofString "FUN",.ofString "VOID",.ofString "VISIT",.ofString "BUILD",.ofString "Cells",.ofString "Store",.ofString "END_CODE",.ofString "Streams",.ofString "stream_term",.ofString "check_not_past",.ofString "input_code",.ofString "check_character_target",.ofString "check_code_target",.ofString "character_input",.ofString "code_input",.ofString "get_character",.ofString "peek_character",.ofString "get_character_code",.ofString "peek_character_code",.ofString "at_end_of_input",.ofString "COMMA_PRIORITY",.ofString "PREFIX_TYPES",.ofString "INFIX_TYPES",.ofString "POSTFIX_TYPES",.ofString "standard_rows",.ofString "flag_rows",.ofString "fixity",.ofString "OperatorTable",.ofString "Operators",.ofString "Flags",.ofString "PairSet",.ofString "push_arguments",.ofString "push_pairs",.ofString "same_shape",.ofString "is_variable",.ofString "unify",.ofString "unify_unify",.ofString "bind_checked",.ofString "occurs_in",.ofString "READ",.ofString "EXTRA",.ofString "Areas",.ofString "Surroundings",.ofString "HostedAreas",.ofString "_law_pick",.ofString "_law_error",.ofString "_law_plain",.ofString "_law_asked",.ofString "_law_agrees",.ofString "_law_target",.ofString "_law_taken",.ofString "_law_read"]
end
section
open PySem PySem.W PySem.Calls PyProof.Rows
noncomputable def l20 (P:Params):List Obj:=(t20 P).list 1162
@[reducible] noncomputable def H1 (P:Params):Heap:=⟨(l20 P).toArray,{}⟩
theorem ZgU (w:World)(os:OsState):(s1 w os).abs=⟨H1 w.params,#[],{},1808,os⟩:=by kernel_rfl
theorem Zfm:@importedModules=PySem.W.Fast.tw5923862056798008813:=PySem.W.Fast.te5923862056798008813
theorem Zf9:@openSeen=PySem.W.Fast.tw4187177175401517315:=PySem.W.Fast.te4187177175401517315
theorem ZjB (w:World)(os:OsState):(staticsOk (importedModules PR.main.body) (boot_heap w.params) (H1 w.params)&&namesBound PR (H1 w.params)&&gensDone ⟨H1 w.params,#[],{},1808,os⟩&&laidKept (boot_heap w.params) (H1 w.params))=true:=by
  rw [Zfm]
  kernel_rfl
@[reducible] noncomputable def rwR:RowW:=(OpenLaw.row PySem.Challenge.rw_ok0033_01).toRowW
@[reducible] noncomputable def Xt:Shared→Bool:=fun s=>xlAt Gu [] s&&recOk (RowW.records rwR) s
theorem ZjA (w:World)(os:OsState):openSeen Gu loose (importedModules PR.main.body) Xt true ⟨H1 w.params,#[],{},1808,os⟩=openGood Gu loose:=by
  rw [Zfm,Zf9]
  kernel_rfl
noncomputable def JF:Nat→List Obj→List Nat→List Obj
  | _,[],_=>[]
  | _,_::_,[]=>[]
  | i,o::r,a::as=>match Nat.beq i a with
    | true=>o::JF (i+1) r as
    | false=>JF (i+1) r (a::as)
theorem Ge:∀ (l:List Obj)(i:Nat)(as:List Nat)(q:List Obj),JF i l as=q→as.length=q.length→∀ p∈as.zip q,i≤p.1∧l[p.1 - i]? = some p.2
  | _,_,[],_,_,_,p,hp=>by simp at hp
  | [],_,a::as,q,h,hl,p,hp=>by
    simp only [JF] at h
    subst h
    simp at hl
  | o::r,i,a::as,q,h,hl,p,hp=>by
    simp only [JF] at h
    cases hb:Nat.beq i a with
    | true =>
      rw [hb] at h
      have hia:i=a:=Nat.eq_of_beq_eq_true hb
      subst hia
      subst h
      simp only [List.zip_cons_cons,List.mem_cons] at hp
      rcases hp with rfl|hp
      · simp
      · have:=Ge r (i+1) as _ rfl (by simpa using hl) p hp
        refine ⟨by omega,?_⟩
        have e:p.1 - i=(p.1 - (i+1))+1:=by omega
        rw [e,List.getElem?_cons_succ]
        exact this.2
    | false =>
      rw [hb] at h
      have:=Ge r (i+1) (a::as) q h hl p hp
      refine ⟨by omega,?_⟩
      have e:p.1 - i=(p.1 - (i+1))+1:=by omega
      rw [e,List.getElem?_cons_succ]
      exact this.2
theorem ZgV (P:Params):JF 0 (l20 P) Kas=(K P).map (·.2):=by kernel_rfl
theorem ZgW (P:Params):(K P).all (fun p => !p.2.isFreed)=true:=by kernel_rfl
theorem WP {l:List (Nat×Obj)}{a:Nat}{o:Obj}(h:l.lookup a=some o):(a,o)∈l:=by
  induction l with
  | nil=>simp at h
  | cons p l ih =>
    obtain ⟨b,x⟩:=p
    rw [List.lookup_cons] at h
    by_cases hb:(a==b)=true
    · rw [hb] at h
      have h':x=o:=Option.some.inj h
      rw [← h',beq_iff_eq.mp hb]
      exact List.Mem.head _
    · have hb':(a==b)=false:=by simpa using hb
      rw [hb'] at h
      exact List.Mem.tail _ (ih h)
theorem Gt:∀ (l:List (Nat×Obj)),(l.map (·.1)).zip (l.map (·.2))=l
  | []=>rfl
  | p::l=>by simp only [List.map_cons,List.zip_cons_cons,Gt l]
theorem ZgX {P:Params}{h:Heap}(e:h.objs.toList=l20 P):(K P).In h:=by
  intro a o hl
  have hm:=WP hl
  have hz:=Ge (l20 P) 0 Kas _ (ZgV P) (by rw [Zei P];simp) (a,o) (by rw [Zei P,Gt];exact hm)
  have hlive:o.isFreed=false:=by
    have:=List.all_eq_true.mp (ZgW P) _ hm
    simpa using this
  refine Heap.get?_some_iff.mpr ⟨?_,hlive⟩
  have:=hz.2
  rw [← e] at this
  simpa using this
noncomputable def ZjE:Hook:=⟨List Obj,fun s=>s.heap.objs.toList,fun w=>l20 w.params,InK K,fun _ _ e=>ZgX e,fun w h h' x k=>InK.keeps w h h' x k⟩
theorem left:LeftO PR Gu loose Xt (Hook.obs ZjE) (Hook.val ZjE) 20000 true :=
  LeftO.of_pieces ZgG ZgF (H₁:=H1) (gs₁:=#[]) (d₁:={}) (k₁:=1808) (fun w os=>(ZjK w os).trans (congrArg some (ZgU w os))) (by decide) (fun w=>funext fun os=>by
    rw [ZjB,ZjA]
    rfl)
theorem Zl7:(chainsOk Gu&&opensWell (OpenLaw.row PySem.Challenge.rw_ok0033_01).prog&&(frees (OpenLaw.row PySem.Challenge.rw_ok0033_01).toRowW&&(OpenLaw.row PySem.Challenge.rw_ok0033_01).within.isEmpty))=true:=by decide +kernel
theorem ZlD:(OpenLaw.row PySem.Challenge.rw_ok0033_01).prog.tablesWhole=true:=by decide +kernel
end
section
open PySem PySem.W PySem.Calls PyProof.Rows
theorem Zf8:@OpenLaw.wellSaid=PySem.W.Fast.tw9446332074065402090:=PySem.W.Fast.te9446332074065402090
theorem ZlC:OpenLaw.wellSaid PySem.Challenge.rw_ok0033_01=true:=by
  rw [Zf8]
  kernel_rfl
end
section
theorem G6 {b d R:Nat}(h:d+b<R):d<R:=Nat.lt_of_le_of_lt (Nat.le_add_right _ _) h
theorem Vg {a b d R:Nat}(h:d+b<R)(k:Nat.ble a b=true):d+a<R:=Nat.lt_of_le_of_lt (Nat.add_le_add_left (Nat.le_of_ble_eq_true k) d) h
theorem UV {a c b d R:Nat}(h:d+b<R)(k:Nat.ble (a+c) b=true):d+a+c<R:=(Nat.add_assoc d a c).symm ▸ Vg h k
theorem UU {a c e b d R:Nat}(h:d+b<R)(k:Nat.ble (a+(c+e)) b=true):d+a+c+e<R:=(Nat.add_assoc (d+a) c e).symm ▸ UV h k
theorem G5 {a c e f b d R:Nat}(h:d+b<R)(k:Nat.ble (a+(c+(e+f))) b=true):d+a+c+e+f<R:=(Nat.add_assoc (d+a+c) e f).symm ▸ UU h k
theorem om1 {a N M:Nat}(h:a<OfNat.ofNat N)(e:Nat.ble N M=true):a<M:=Nat.lt_of_lt_of_le h (Nat.le_of_ble_eq_true e)
theorem om2 {a b k m:Nat}(h:a≤b+k)(e:Nat.ble k m=true):a≤b+m:=Nat.le_trans h (Nat.add_le_add_left (Nat.le_of_ble_eq_true e) b)
theorem om3 {a b c j k m:Nat}(h:a≤b+j)(i:b≤c+k)(e:Nat.ble (k+j) m=true):a≤c+m:=Nat.le_trans h (Nat.le_trans (Nat.add_le_add_right i j) (Nat.le_trans (Nat.le_of_eq (Nat.add_assoc c k j)) (Nat.add_le_add_left (Nat.le_of_ble_eq_true e) c)))
theorem om4 {a b c d i j k m:Nat}(h:a≤b+i)(g:b≤c+j)(f:c≤d+k)(e:Nat.ble (k+j+i) m=true):a≤d+m:=om3 h (om3 g f (Nat.ble_self_eq_true _)) e
theorem om5 {a b k N M:Nat}(h:a≤b+k)(i:b<OfNat.ofNat N)(e:Nat.ble (N+k) M=true):a<M:=Nat.lt_of_le_of_lt h (Nat.lt_of_lt_of_le (Nat.add_lt_add_right i k) (Nat.le_of_ble_eq_true e))
theorem om6 {a b c j k N M:Nat}(h:a≤b+j)(g:b≤c+k)(i:c<OfNat.ofNat N)(e:Nat.ble (N+k+j) M=true):a<M:=om5 h (om5 g i (Nat.ble_self_eq_true _)) e
theorem om7 {a k j R:Nat}(h:a+k<R)(e:Nat.ble j k=true):a+j<R:=Vg h e
theorem om8 {a N M:Nat}(h:a<OfNat.ofNat N)(e:Nat.ble N (M+1)=true):a≤M:=Nat.le_of_lt_succ (om1 h e)
theorem om9 {a b m:Nat}(h:a≤b):a≤b+m:=Nat.le_add_right_of_le h
theorem ZlG {a N M:Nat}(h:a≤OfNat.ofNat N)(e:Nat.ble N M=true):a≤M:=Nat.le_trans h (Nat.le_of_ble_eq_true e)
theorem ZlF {a N M:Nat}(h:a≤OfNat.ofNat N)(e:Nat.ble (N+1) M=true):a<M:=Nat.lt_of_le_of_lt h (Nat.le_of_ble_eq_true e)
theorem ZlE {a m:Nat}:a≤a+m:=Nat.le_add_right a m
theorem on1 {k:Nat}:(0:Int)≤(k:Int):=Int.natCast_nonneg k
theorem on2 {k n:Nat}(h:k<n):(k:Int)<(n:Int):=Int.ofNat_lt.mpr h
theorem on3 {k N:Nat}(h:k<OfNat.ofNat N)(e:Nat.ble N 9223372036854775808=true):(k:Int)<2 ^ 63:=Int.lt_of_lt_of_le (on2 h) (Int.ofNat_le.mpr (Nat.le_of_ble_eq_true e))
theorem on4 {k N:Nat}(h:k≤OfNat.ofNat N)(e:Nat.ble (N+1) 9223372036854775808=true):(k:Int)<2 ^ 63:=on3 (Nat.lt_succ_of_le h) e
theorem on5 {d:Int}{N:Nat}(h:d<(OfNat.ofNat N:Int))(e:Nat.ble N 4611686018427387904=true):d<2 ^ 62:=Int.lt_of_lt_of_le h (Int.ofNat_le.mpr (Nat.le_of_ble_eq_true e))
theorem on7 {d:Int}{N:Nat}(h:d<(OfNat.ofNat N:Int))(e:Nat.ble N 9223372036854775808=true):d<2 ^ 63:=Int.lt_of_lt_of_le h (Int.ofNat_le.mpr (Nat.le_of_ble_eq_true e))
theorem on8 {d:Int}{N:Nat}(h:d<(OfNat.ofNat N:Int))(e:Nat.ble (1+N) 4611686018427387904=true):1+d<2 ^ 62:=Int.lt_of_lt_of_le (Int.add_lt_add_left h 1) (Int.ofNat_le.mpr (Nat.le_of_ble_eq_true e))
theorem on6 {d:Int}(h:0≤d) : -2 ^ 62≤d:=Int.le_trans (by decide +kernel) h
theorem oe1 {a b N M:Nat}(h:a=b)(i:b<OfNat.ofNat N)(e:Nat.ble N (M+1)=true):a≤M:=h ▸ om8 i e
theorem oe2 {a b N M:Nat}(h:a=b)(i:b<OfNat.ofNat N)(e:Nat.ble N M=true):a<M:=h ▸ om1 i e
theorem oe3 {a b c:Nat}(h:a=b)(i:c<b):c<a:=h ▸ i
theorem oe4 {a b c:Nat}(h:a=b)(i:c<a):c<b:=h ▸ i
theorem oe5 {a b N M:Nat}(h:a≤b)(i:b<OfNat.ofNat N)(e:Nat.ble N M=true):a<M:=Nat.lt_of_le_of_lt h (om1 i e)
theorem oe6 {a b N M:Nat}(h:a≤b)(i:b<OfNat.ofNat N)(e:Nat.ble N (M+1)=true):a≤M:=Nat.le_trans h (om8 i e)
theorem oe7 {a b c j m:Nat}(h:a≤b+j)(i:b≤c)(e:Nat.ble j m=true):a≤c+m:=Nat.le_trans h (Nat.add_le_add i (Nat.le_of_ble_eq_true e))
theorem oe8 {a b c i k:Nat}(h:a≤b+k)(g:b≤c+i):a≤c+(i+k):=om3 h g (Nat.ble_self_eq_true _)
theorem oe9 {a b N k i:Nat}(h:a≤b+k)(g:b≤N+k * i):a≤N+k * (i+1):=om3 h g (Nat.ble_self_eq_true _)
theorem ZlY {b N k i:Nat}(g:b≤N+k * i):b≤N+k * (i+1):=Nat.le_trans g (Nat.add_le_add_left (Nat.mul_le_mul_left k (Nat.le_succ i)) N)
theorem ZlX {a N k i n M:Nat}(h:a≤N+k * i)(g:i<OfNat.ofNat n)(e:Nat.ble (N+k * n+1) M=true):a<M:=Nat.lt_of_le_of_lt h (Nat.lt_of_le_of_lt (Nat.add_le_add_left (Nat.mul_le_mul_left k (Nat.le_of_lt g)) N) (Nat.le_of_ble_eq_true e))
theorem ZlW {a N i n M:Nat}(h:a≤N+i)(g:i<OfNat.ofNat n)(e:Nat.ble (N+n) M=true):a<M:=Nat.lt_of_le_of_lt h (Nat.lt_of_lt_of_le (Nat.add_lt_add_left g N) (Nat.le_of_ble_eq_true e))
theorem ZlV {a b c k:Nat}(h:a≤b+c)(g:c=k):a≤b+k:=g ▸ h
theorem ZlU {a b N M:Nat}(h:a≤b)(i:b=OfNat.ofNat N)(e:Nat.ble N M=true):a≤M:=Nat.le_trans h (i ▸ Nat.le_of_ble_eq_true e)
theorem ZlT {a b m N M:Nat}(h:a≤m+b)(i:b=OfNat.ofNat N)(e:Nat.ble (m+N) M=true):a≤M:=Nat.le_trans h (i ▸ Nat.le_of_ble_eq_true e)
theorem ZlS {a b N k M:Nat}(h:a≤b+k)(i:b≤OfNat.ofNat N)(e:Nat.ble (N+k) M=true):a≤M:=Nat.le_trans h (Nat.le_trans (Nat.add_le_add_right i k) (Nat.le_of_ble_eq_true e))
theorem ZlR {a b N M:Nat}(h:a≤N+b)(e:Nat.ble N M=true):a≤M+b:=Nat.le_trans h (Nat.add_le_add_right (Nat.le_of_ble_eq_true e) b)
theorem ZlQ {a b c:Nat}(h:a≤b)(g:c=b):a≤c:=g ▸ h
theorem ZlP {a b:Nat}(h:a<b):a+1≤b:=h
theorem ZlO {a b k:Nat}(h:a≤b):a+k≤b+k:=Nat.add_le_add_right h k
theorem ZlN {a b c k:Nat}(h:a≤b+k)(g:c=b):a+k≤c+k+k:=g ▸ Nat.add_le_add_right h k
theorem ZlM {a b N M:Nat}(g:a≤M)(e:Nat.ble M N=true):a≤N+b:=Nat.le_trans g (Nat.le_trans (Nat.le_of_ble_eq_true e) (Nat.le_add_right N b))
theorem ZlL {a N M:Nat}(h:a<OfNat.ofNat N)(e:Nat.ble N M=true):a+1≤M:=om1 h e
theorem ZlK {a b c N M:Nat}(h:a=b)(g:c=b)(i:b<OfNat.ofNat N)(e:Nat.ble N (M+1)=true):a≤M:=h ▸ om8 i e
theorem ZlJ {a b c:Nat}(h:a=b)(g:b≤c):((a:Nat):Int)≤((c:Nat):Int):=Int.ofNat_le.mpr (h ▸ g)
theorem ZlI {a b:Nat}(h:a=0):a≤b:=h ▸ Nat.zero_le b
theorem ZlH {a b:Nat}(h:a=b):a≤b+1:=h ▸ Nat.le_succ a
theorem on9 {d:Int}(h:0≤d) : -2 ^ 62≤1+d:=Int.le_trans (on6 h) (Int.le_add_of_nonneg_left (by decide))
end
section
open PySem PySem.W PySem.Calls PySem.Spec PyProof.Rows PyProof.V
set_option autoImplicit false
noncomputable def ZlB (_:OpenLaw)(_:Params→Frag):Prop:=True
theorem ZnY:ZlB PySem.Challenge.rw_ok0033_01 K:=by k_fill;trivial
noncomputable def Za (l:List (Addr×Obj)):Prop:=(l.map (·.1)).Nodup
theorem Za.cons {p:Addr×Obj}{l:List (Addr×Obj)}(h:AllLt p.1 l)(D:Za l):Za (p::l):=by
  refine List.nodup_cons.mpr ⟨fun hm=>?_,D⟩
  obtain ⟨q,hq,e⟩:=List.mem_map.mp hm
  have:∀ {l:List (Addr×Obj)},AllLt p.1 l→∀ q∈l,q.1<p.1:=by
    intro l
    induction l with
    | nil=>intro _ q hq;nomatch hq
    | cons x r ih=>exact fun h q hq=>(List.mem_cons.mp hq).elim (fun e=>e ▸ h.1) (ih h.2 q)
  have:=this h q hq
  rw [e] at this
  exact absurd this (Nat.lt_irrefl _)
theorem Za.of {l l':List (Addr×Obj)}(D:Za l)(e:l'.map (·.1)=l.map (·.1)):Za l':=by unfold Za;rw [e];exact D
theorem Zag {d:Addr}{o o':Obj}{r r':List (Addr×Obj)}(U:Upd d o o' r r'):∀ X:List (Addr×Obj),(∀ p∈X,p.1≠d)→Upd d o o' (X++r) (X++r')
  | [],_=>U
  | p::X,h =>.tail (h p (.head _)) (Zag U X fun q hq=>h q (.tail _ hq))
theorem Gv {d:Addr}{o:Obj}{r:List (Addr×Obj)}{g:Obj→List (Addr×Obj)}(U:UpdF d o r g):∀ X:List (Addr×Obj),(∀ p∈X,p.1≠d)→UpdF d o (X++r) (fun o'=>X++g o')
  | [],_=>U
  | p::X,h =>.tail (h p (.head _)) (Gv U X fun q hq=>h q (.tail _ hq))
inductive Rep (d:Addr) (o o':Obj):List (Addr×Obj)→List (Addr×Obj)→Prop
  | head {r}:Rep d o o' ((d,o)::r) ((d,o')::r)
  | tail {p r r'}:Rep d o o' r r'→Rep d o o' (p::r) (p::r')
  | app {X r r'}:Rep d o o' r r'→Rep d o o' (X++r) (X++r')
theorem Rep.mem {d:Addr}{o o':Obj}{l l':List (Addr×Obj)}(R:Rep d o o' l l'):(d,o)∈l:=by
  induction R with
  | head=>exact .head _
  | tail _ ih=>exact .tail _ ih
  | app _ ih=>exact List.mem_append_right _ ih
theorem YM {p:Addr×Obj}{l:List (Addr×Obj)}{d:Addr}{o:Obj}(D:Za (p::l))(h:(d,o)∈l):p.1≠d∧Za l:=by
  have D:=List.nodup_cons.mp D
  refine ⟨fun e=>D.1 ?_,D.2⟩
  show (fun x:Addr×Obj=>x.1) p∈_
  rw [show (fun x:Addr×Obj=>x.1) p=d from e]
  exact List.mem_map_of_mem (f:=(·.1)) h
theorem Vn {X l:List (Addr×Obj)}{d:Addr}{o:Obj}(D:Za (X++l))(h:(d,o)∈l):(∀ p∈X,p.1≠d)∧Za l:=by
  unfold Za at D
  rw [List.map_append,List.nodup_append] at D
  exact ⟨fun p hp=>D.2.2 _ (List.mem_map_of_mem (f:=(·.1)) hp) _ (List.mem_map_of_mem (f:=(·.1)) h),D.2.1⟩
theorem Rep.upd {d:Addr}{o o':Obj}{l l':List (Addr×Obj)}(R:Rep d o o' l l'):Za l→Upd d o o' l l':=by
  induction R with
  | head =>
    intro D
    have D:=List.nodup_cons.mp D
    refine .head fun p hp e=>D.1 ?_
    show d∈_
    rw [← e]
    exact List.mem_map_of_mem hp
  | tail R ih=>exact fun D =>.tail (YM D R.mem).1 (ih (YM D R.mem).2)
  | app R ih=>exact fun D=>Zag (ih (Vn D R.mem).2) _ (Vn D R.mem).1
inductive RepF (d:Addr) (o:Obj):List (Addr×Obj)→(Obj→List (Addr×Obj))→Prop
  | head {r}:RepF d o ((d,o)::r) (fun o'=>(d,o')::r)
  | tail {p r g}:RepF d o r g→RepF d o (p::r) (fun o'=>p::g o')
  | app {X r g}:RepF d o r g→RepF d o (X++r) (fun o'=>X++g o')
theorem RepF.mem {d:Addr}{o:Obj}{l:List (Addr×Obj)}{g:Obj→List (Addr×Obj)}(R:RepF d o l g):(d,o)∈l:=by
  induction R with
  | head=>exact .head _
  | tail _ ih=>exact .tail _ ih
  | app _ ih=>exact List.mem_append_right _ ih
theorem RepF.upd {d:Addr}{o:Obj}{l:List (Addr×Obj)}{g:Obj→List (Addr×Obj)}(R:RepF d o l g):Za l→UpdF d o l g:=by
  induction R with
  | head =>
    intro D
    have D:=List.nodup_cons.mp D
    refine .head fun p hp e=>D.1 ?_
    show d∈_
    rw [← e]
    exact List.mem_map_of_mem hp
  | tail R ih=>exact fun D =>.tail (YM D R.mem).1 (ih (YM D R.mem).2)
  | app R ih=>exact fun D=>Gv (ih (Vn D R.mem).2) _ (Vn D R.mem).1
structure Pull (S news rest:List (Addr×Obj)) (g:List (Addr×Obj)→List (Addr×Obj)):Prop where
  perm:news.Perm (S++rest)
  back:∀ S',(g S').Perm (S'++rest)
theorem Pull.here {S r:List (Addr×Obj)}:Pull S (S++r) r (fun S'=>S'++r):=⟨.refl _,fun _ =>.refl _⟩
theorem Pull.all {S:List (Addr×Obj)}:Pull S S [] (fun S'=>S'):=⟨by simp,fun S'=>by simp⟩
theorem Pull.cons {S l r:List (Addr×Obj)} {g}{p:Addr×Obj}(P:Pull S l r g):Pull S (p::l) (p::r) (fun S'=>p::g S') :=
  ⟨(P.perm.cons p).trans (List.perm_middle.symm),fun S'=>((P.back S').cons p).trans List.perm_middle.symm⟩
theorem Pull.app {S l r A:List (Addr×Obj)} {g}(P:Pull S l r g):Pull S (A++l) (A++r) (fun S'=>A++g S'):=by
  have h:∀ X,(A++(X++r)).Perm (X++(A++r)):=fun X=>by
    rw [← List.append_assoc,← List.append_assoc]
    exact List.perm_append_comm.append_right _
  exact ⟨(P.perm.append_left A).trans (h S),fun S'=>((P.back S').append_left A).trans (h S')⟩
theorem Ze {h₀ h:Heap}{L:Addr}{l l':List (Addr×Obj)}(N:News h₀ L h l)(p:l.Perm l'):News h₀ L h l':=fun q hq=>N q (p.mem_iff.mpr hq)
theorem Za.perm {l l':List (Addr×Obj)}(D:Za l)(p:l.Perm l'):Za l':=(p.map _).nodup_iff.mp D
theorem ZgY {S news rest S':List (Addr×Obj)}{g:List (Addr×Obj)→List (Addr×Obj)}{h₀ h:Heap}{L:Addr}(P:Pull S news rest g)(N:News h₀ L h (S'++rest)):News h₀ L h (g S'):=Ze N (P.back S').symm
theorem ZgZ {S news rest S':List (Addr×Obj)}{g:List (Addr×Obj)→List (Addr×Obj)}(P:Pull S news rest g)(D:Za (S'++rest)):Za (g S'):=D.perm (P.back S').symm
theorem Za.grow {h₀ h:Heap}{L:Addr}{d:Addr}{o:Obj}{l:List (Addr×Obj)}(_:News h₀ L h ((d,o)::l))(k:∀ p∈l,p.1<d)(D:Za l):Za ((d,o)::l):=Za.cons (allLt_of k) D
theorem Za.grow2 {h₀ h:Heap}{L:Addr}{d e:Addr}{o o':Obj}{l:List (Addr×Obj)}(_:News h₀ L h ((d,o)::(e,o')::l))(k:∀ p∈l,p.1<d)(k2:d<e)(D:Za l):Za ((d,o)::(e,o')::l):=by
  have h1:Za ((e,o')::(d,o)::l):=Za.cons ⟨k2,allLt_of fun p hp=>Nat.lt_trans (k p hp) k2⟩ (Za.cons (allLt_of k) D)
  exact (List.Perm.nodup_iff (List.Perm.map _ (.swap ..))).mp h1
structure Tk (R l rest:List (Addr×Obj)):Prop where
  perm:l.Perm (R++rest)
structure Ext (a:Addr×Obj) (l r:List (Addr×Obj)):Prop where
  perm:l.Perm (a::r)
structure ExtA (S l r:List (Addr×Obj)):Prop where
  perm:l.Perm (S++r)
theorem Ext.here {a:Addr×Obj}{l:List (Addr×Obj)}:Ext a (a::l) l:=⟨.refl _⟩
theorem Ext.tail {a p:Addr×Obj}{l r:List (Addr×Obj)}(h:Ext a l r):Ext a (p::l) (p::r):=⟨(h.perm.cons p).trans (.swap ..)⟩
theorem Ext.app {a:Addr×Obj}{X l r:List (Addr×Obj)}(h:Ext a l r):Ext a (X++l) (X++r):=⟨(h.perm.append_left X).trans List.perm_middle⟩
theorem ExtA.here {S l:List (Addr×Obj)}:ExtA S (S++l) l:=⟨.refl _⟩
theorem ExtA.all {S:List (Addr×Obj)}:ExtA S S []:=⟨by simp⟩
theorem ExtA.tail {S:List (Addr×Obj)}{p:Addr×Obj}{l r:List (Addr×Obj)}(h:ExtA S l r):ExtA S (p::l) (p::r):=⟨(h.perm.cons p).trans List.perm_middle.symm⟩
theorem ExtA.app {S X l r:List (Addr×Obj)}(h:ExtA S l r):ExtA S (X++l) (X++r):=⟨by
  refine (h.perm.append_left X).trans ?_
  rw [← List.append_assoc,← List.append_assoc]
  exact List.perm_append_comm.append_right _⟩
theorem Tk.nil {l:List (Addr×Obj)}:Tk [] l l:=⟨.refl _⟩
theorem Tk.cons {a:Addr×Obj}{R l l' rest:List (Addr×Obj)}(h:Ext a l l')(k:Tk R l' rest):Tk (a::R) l rest:=⟨List.Perm.trans h.perm (List.Perm.cons a k.perm)⟩
theorem Tk.app {S R l l' rest:List (Addr×Obj)}(h:ExtA S l l')(k:Tk R l' rest):Tk (S++R) l rest:=⟨by
  refine List.Perm.trans h.perm ?_
  rw [List.append_assoc]
  exact List.Perm.append_left S k.perm⟩
theorem Zci {h₀ h:Heap}{L:Addr}{l R T rest r₁ r₂ j:List (Addr×Obj)}(N:News h₀ L h l)(a:Tk R l r₁)(b:ExtA T r₁ r₂)(c:ExtA rest r₂ j):News h₀ L h (R++((j++T)++rest)):=fun p hp=>N p <| by
  refine (List.Perm.mem_iff a.perm).mpr ?_
  rcases List.mem_append.mp hp with h|h
  · exact List.mem_append_left _ h
  · refine List.mem_append_right _ ((List.Perm.mem_iff b.perm).mpr ?_)
    rcases List.mem_append.mp h with h|h
    · rcases List.mem_append.mp h with h|h
      · exact List.mem_append_right _ ((List.Perm.mem_iff c.perm).mpr (List.mem_append_right _ h))
      · exact List.mem_append_left _ h
    · exact List.mem_append_right _ ((List.Perm.mem_iff c.perm).mpr (List.mem_append_left _ h))
theorem Zd4 {l R T rest r₁ r₂ j:List (Addr×Obj)}(D:Za l)(a:Tk R l r₁)(b:ExtA T r₁ r₂)(c:ExtA rest r₂ j):Za (R++((j++T)++rest)):=by
  refine D.perm (List.Perm.trans a.perm (List.Perm.append_left R ?_))
  refine List.Perm.trans b.perm ((List.Perm.append_left T c.perm).trans ?_)
  rw [List.append_assoc]
  refine List.Perm.trans ?_ (List.perm_append_comm_assoc T j rest)
  exact List.Perm.append_left T List.perm_append_comm
theorem Tk.one {S l rest:List (Addr×Obj)}(h:ExtA S l rest):Tk S l rest:=⟨h.perm⟩
noncomputable def ZD {α:Type}(key:α→PyData)(k:Nat):List α→List (PyData×PyData)
  | []=>[]
  | x::r=>(key x,.int k)::ZD key (k+1) r
section
variable {α:Type} [DecidableEq α]{key:α→PyData}(hk:∀ a b,same (key a) (key b)=decide (a=b))
include hk
theorem V3 (x:α):∀ (l:List α)(k:Nat),(∃ i,l[i]? = some x∧PySem.Spec.lookup (key x) (ZD key k l)=some (.int ((k+i:Nat):Int)))∨(x∉l∧PySem.Spec.lookup (key x) (ZD key k l)=none)
  | [],k =>.inr ⟨by simp,rfl⟩
  | y::r,k=>by
    unfold ZD PySem.Spec.lookup
    rw [hk]
    by_cases e:y=x
    · subst e
      exact .inl ⟨0,rfl,by simp⟩
    · rw [decide_eq_false e]
      rcases V3 x r (k+1) with ⟨i,h1,h2⟩|⟨h1,h2⟩
      · refine .inl ⟨i+1,by simpa using h1,?_⟩
        rw [if_neg (by decide),h2]
        congr 2
        omega
      · exact .inr ⟨by simp [Ne.symm e,h1],by rw [if_neg (by decide)];exact h2⟩
theorem Va (x:α)(l:List α):(∃ i:Nat,l[i]? = some x∧PyProof.Rows.intAt (key x) (-1) (ZD key 0 l)=i)∨(x∉l∧PyProof.Rows.intAt (key x) (-1) (ZD key 0 l) = -1):=by
  rcases V3 hk x l 0 with ⟨i,h1,h2⟩|⟨h1,h2⟩
  · exact .inl ⟨i,h1,by unfold PyProof.Rows.intAt;rw [h2];simp⟩
  · exact .inr ⟨h1,by unfold PyProof.Rows.intAt;rw [h2]⟩
theorem GC (x:α):∀ (l:List α)(k:Nat),x∉l→putD (key x) (.int ((k+l.length:Nat):Int)) (ZD key k l)=ZD key k (l++[x])
  | l,k,h=>by
    have hany:∀ (l:List α) (k:Nat),x∉l→(ZD key k l).any (fun p=>same p.1 (key x))=false:=by
      intro l
      induction l with
      | nil=>intro k _;rfl
      | cons y r ih =>
        intro k hx
        simp only [List.mem_cons,not_or] at hx
        unfold ZD
        rw [List.any_cons,ih (k+1) hx.2,hk,decide_eq_false (Ne.symm hx.1)]
        rfl
    unfold putD
    rw [hany l k h,if_neg (by decide)]
    clear hany h
    induction l generalizing k with
    | nil=>simp [ZD]
    | cons y r ih =>
      show (key y,_)::(ZD key (k+1) r++_)=(key y,_)::ZD key (k+1) (r++[x])
      rw [← ih (k+1)]
      have e:k+(y::r).length=k+1+r.length:=by simp only [List.length_cons];omega
      rw [e]
omit hk in
theorem V4 (l:List α):∀ k,(ZD key k l).length=l.length:=by
  induction l with
  | nil=>intro k;rfl
  | cons y r ih=>intro k;simp [ZD,ih]
omit hk in
theorem V2 {sk:Shape}(hs:∀ a,sk.has (key a)=true)(l:List α):∀ k,Shaped sk .int (ZD key k l):=by
  induction l with
  | nil=>intro k;rfl
  | cons y r ih =>
    intro k
    have:=ih (k+1)
    unfold Shaped at this ⊢
    unfold ZD
    rw [List.all_cons,this,hs]
    rfl
end
noncomputable def Zl (its:Array Value):Prop:=its.size≤100000
theorem Zl.fits {its:Array Value}(h:Zl its):its.size≤sizeLine:=by rw [sizeLine_eq];unfold Zl at h;omega
section
variable {prog:Program}{w:World}{A:Around}{E:Value→Shared→Prop}{s:Shared}{h₀:Heap}{L l:Addr}{m:Str→Option Value}{news:List (Addr×Obj)}
theorem ZeQ {its:Array Value}{n:Nat}{Q:Value→Shared→Prop}(N:News h₀ L s.heap news)(hm:(l,W.listOf its n)∈news)(hs:Zl its)
    (h:Q (.int its.size (s.toks+1)) {s with toks:=s.toks+1+1}):wpAny (model prog w) A (call (.builtin "len") [.ref l]) Q E s :=
  len_list (PySem.IsL.isList (n:=n) (N _ hm).1) (by unfold Zl at hs;omega) h
end
noncomputable def YN (p:Int×Int):PyData:=encTuple PyData.int [p.1,p.2]
@[reducible] noncomputable def FX:=List (List Int×Addr×Value)
noncomputable def J0 (w:World)(o:Obj)(xs:FX):Prop:=∃ es ep,o.ExactDict∧o.data = .dict es ep∧es.toList=xs.map (entryOfKey (tupleKind (intKind PR w)))∧(xs.map (·.1)).Nodup
noncomputable def VT (w:World)(xs:FX)(news:List (Addr×Obj)):Prop:=∀ x∈xs,∃ ok,(x.2.1,ok)∈news∧TupKeyObj (intKind PR w) x.1 ok
theorem VT.mono {w:World}{xs:FX}{l l':List (Addr×Obj)}(k:VT w xs l)(h:∀ p∈l,p∈l'):VT w xs l':=fun x hx=>let ⟨ok,a,b⟩:=k x hx;⟨ok,h _ a,b⟩
theorem J0.tab {w:World}{o:Obj}{xs:FX}{d:Addr}{news:List (Addr×Obj)}{D:List (PyData×PyData)}(lo:(d==sysModules)=false)(hO:J0 w o xs)(hm:(d,o)∈news)(hK:VT w xs news)(hf:FlatPairs (encTuple PyData.int) (kvsOf xs) D) :
    TupTab (intKind PR w) PyData.int news d D:=let ⟨es,ep,a,b,c,e⟩:=hO;⟨lo,o,es,ep,xs,hm,a,b,c,e,hK,hf⟩
noncomputable def Zct:Shape :=.tuple [.int,.int]
section
variable {w:World}{A:Around}{E:Value→Shared→Prop}{s:Shared}{h₀:Heap}{L d a:Addr}{m:Str→Option Value}{news:List (Addr×Obj)}
theorem ZgK {FN:List (Int×Int)}{x y z:Int}{t1 t2 tz:Tok}{Q:Value→Shared→Prop}(hu:A.units+1<cLine)(N:News h₀ L s.heap news)(T:TupTab (intKind PR w) PyData.int news d (ZD YN 0 FN))
    (hka:(a,({cls :=.type "tuple",data :=.seq [Value.int x t1,Value.int y t2].toArray}:Obj))∈news)
    (h:∀ t tk,Q (.int (PyProof.Rows.intAt (YN (x,y)) z (ZD YN 0 FN)) t) {s with toks:=tk}) :
    wpAny (model PR w) A (call (.builtin "dict.get") [.ref d,.ref a,.int z tz]) Q E s :=
  call_get2_tupTab (ks:=[x,y]) same_int hu N T hka (TupKeyObj.made (ItemsAre.cons (intKind_is _ _ _ _) (ItemsAre.cons (intKind_is _ _ _ _) ItemsAre.nil))) (Flat.int _ _) fun v hv=>by
    obtain ⟨t,rfl⟩:=flat_getD_int (sk:=Zct) (V2 (fun _=>rfl) FN 0) hv
    exact h t _
theorem ZgJ {o:Obj}{xs:FX}{x y:Int}{t1 t2:Tok}{v:Value}{g:Obj→List (Addr×Obj)}{Q:Unit→Shared→Prop}(hu:A.units+1<cLine)(F:Fr h₀ L s.heap m)(N:News h₀ L s.heap news)(U:UpdF d o news g)
    (hO:J0 w o xs) (hK:VT w xs news) (hka:(a,({cls :=.type "tuple",data :=.seq [Value.int x t1,Value.int y t2].toArray}:Obj))∈news) (hsz:xs.length≤sizeLine)
    (h:∀ h' o' tk,Fr h₀ L h' m→News h₀ L h' (g o')→J0 w o' (storedH xs [x,y] a v)→Q () {s with heap:=h',toks:=tk}) :
    wpAny (model PR w) A (setItem (.ref d) (.ref a) v) Q E s:=by
  obtain ⟨pre,post,rfl,hg,q1,q2⟩:=U.split
  obtain ⟨es,ep,hc,hd,he,hn⟩:=hO
  have z:=N (d,o) (List.mem_append.mpr (.inr (.head _)))
  have tk:TupKeyObj (intKind PR w) [x,y] ({cls :=.type "tuple",data :=.seq [Value.int x t1,Value.int y t2].toArray}:Obj):=TupKeyObj.made (ItemsAre.cons (intKind_is _ _ _ _) (ItemsAre.cons (intKind_is _ _ _ _) ItemsAre.nil))
  have hD:s.heap.DictOfH (tupleKind (intKind PR w)) d xs:=⟨o,es,ep,z.1,hc,hd,he,fun x hx=>let ⟨_,hmk,t⟩:=hK x hx;t.key (N.get hmk),hn⟩
  refine wpAny_setItem_heap (hsz:=hsz) (knd:=tupleKind (intKind PR w)) (tupleKind_room_in1 hu) (tk.key (N.get hka)) hD fun h' hm' hs=>?_
  obtain ⟨o',es',ep',ho',hc',hd',he',_,hn'⟩:=hm'
  exact h h' o' _ (F.change hs z.2.1 z.2.2) (hg o' ▸ news_set N q1 q2 hs ho') ⟨es',ep',hc',hd',he',hn'⟩
end
noncomputable def Zh (w:World)(tl an fl fn:Nat)(TX:List Str)(FN:List (Int×Int))(S:List (Addr×Obj)):Prop :=
  ∃ (its fits:Array Value) (e1 e2:Nat) (oan ofn:Obj) (kvs:List (Str×Value)) (xs:FX) (ks:List (Addr×Obj)),
    S=(an,oan)::(tl,W.listOf its e1)::(fl,W.listOf fits e2)::(fn,ofn)::ks ∧
    (oan.IsDictOf (strKind PR w) kvs∧FlatPairs PyData.str kvs (ZD PyData.str 0 TX)∧(an==sysModules)=false)∧TX.Nodup∧its.size=TX.length∧(∀ (i:Nat) (x:Str),TX[i]? = some x→∃ t,its[i]? = some (Value.str x t)) ∧
    (J0 w ofn xs∧VT w xs ks∧FlatPairs (encTuple PyData.int) (kvsOf xs) (ZD YN 0 FN)∧(fn==sysModules)=false)∧fits.size=FN.length∧FN.Nodup
section
variable {M:Model}{A:Around}{E:Value→Shared→Prop}{s:Shared}{h₀:Heap}{L:Addr}{m:Str→Option Value}{news:List (Addr×Obj)}
theorem YL {vs:List Value}{Q:Value→Shared→Prop}(F:Fr h₀ L s.heap m)(N:News h₀ L s.heap news)(D:Za news)
    (h:∀ (d:Nat) h',Fr h₀ L h' m→News h₀ L h' ((d,{cls :=.type "tuple",data :=.seq vs.toArray})::news)→Za ((d,{cls :=.type "tuple",data :=.seq vs.toArray})::news)→Q (.ref d) {s with heap:=h'}) (hsz:vs.length≤sizeLine) :
    wpAny M A (newTuple vs) Q E s:=newTuple_N F N (fun h' F' N'=>h _ h' F' N' (Za.cons (allLt_of fun p hp=>Heap.lt_size (N p hp).1) D)) hsz
theorem ZeM {vs:List Value}{Q:Value→Shared→Prop}(F:Fr h₀ L s.heap m)(N:News h₀ L s.heap news)(D:Za news)
    (h:∀ (d:Nat) h',Fr h₀ L h' m→News h₀ L h' ((d,W.listOf vs.toArray 0)::news)→Za ((d,W.listOf vs.toArray 0)::news)→Q (.ref d) {s with heap:=h'}) (hsz:vs.length≤sizeLine) :
    wpAny M A (newList vs) Q E s:=newList_N F N (fun h' F' N'=>h _ h' F' N' (Za.cons (allLt_of fun p hp=>Heap.lt_size (N p hp).1) D)) hsz
end
theorem Vz (a b:Int×Int):same (YN a) (YN b)=decide (a=b):=by
  unfold YN
  rw [same_encTuple same_int]
  by_cases e:a=b
  · subst e;simp
  · rw [decide_eq_false e,decide_eq_false]
    intro q
    simp only [List.cons.injEq,and_true] at q
    exact e (Prod.ext q.1 q.2)
theorem Zat {α:Type}(A B Y:List α):(A++(B++Y)).Perm (B++(A++Y)):=by
  rw [← List.append_assoc,← List.append_assoc]
  exact List.perm_append_comm.append_right _
theorem Zb8 {α:Type}(t:α)(A B Y:List α):(t::(B++(A++Y))).Perm (A++(B++(t::Y))) :=
  ((Zat B A Y).cons t).trans (List.perm_middle.symm.trans (List.perm_middle.symm.append_left A))
section
variable {prog:Program}{w:World}{A:Around}{E:Value→Shared→Prop}{s:Shared}{h₀:Heap}{L l:Addr}{news:List (Addr×Obj)}{its:Array Value}{n:Nat}{k:Int}{u:Tok}{x:Value}{Q:Value→Shared→Prop}
theorem UY (N:News h₀ L s.heap news)(hm:(l,W.listOf its n)∈news)(h0:0≤k)(hfit:k<2 ^ 63)(hx:its[k.toNat]? = some x)(h:Q x s):wpAny (model prog w) A (getItem (.ref l) (.int k u)) Q E s :=
  wpAny_getItem_list (PySem.IsL.isList (n:=n) (N _ hm).1) h0 hfit hx h
theorem GF {value slice:PySem.Expr}(N:News h₀ L s.heap news)(hm:(l,W.listOf its n)∈news)(h0:0≤k)(hfit:k<2 ^ 63)(hx:its[k.toNat]? = some x)(h:Q x s)
    (hs:subscripted slice false (.ref l) (.int k u)=operate [.ref l,.int k u] (getItem (.ref l) (.int k u)):=by with_unfolding_all rfl) (hg:∀ r,letTemporaryGo value (.ref l) r=pure ():=by intro _;with_unfolding_all rfl) :
    wpAny (model prog w) A (subscriptTail value slice (.ref l) (.int k u)) Q E s :=
  PyProof.Rows.subscriptTail_builtin (PySem.IsL.isList (n:=n) (N _ hm).1).typeIs slot_list_getitem.lookup (UY N hm h0 hfit hx h) hs hg
end
end
section
noncomputable def ZM {a:Type}(i:Nonempty a)(P:a→Prop):a:=@Classical.epsilon _ i fun t=>¬ P t
theorem ep1 {a:Type}{i:Nonempty a}{P:a→Prop}(h:P (ZM i P)):∀ x,P x :=
  fun x=>Classical.byContradiction fun hx=>(@Classical.epsilon_spec _ (fun t:a=>¬ P t) ⟨x,hx⟩) h
theorem Zjw:Nonempty PySem.World:=⟨{draws:=fun _ _=>0,params:={strHash:=fun _=>0,shareClass:=fun a=>a,mergeTok:=fun t=>t,idOf:=fun _=>0,idOfShared:=fun _ _=>0,followText:=fun _=>false,idOfImm:=fun _=>0} }⟩
end
section
open PySem PySem.W PySem.Calls PySem.Spec PyProof.Rows PyProof.V
set_option autoImplicit false
structure Hs where
  h:Nat→Int
  k:Nat→Tok
  t:Nat→Tok
@[reducible] noncomputable def Zq (M:Hs)(tl an fl fn n:Nat):Obj:=dictOf [⟨M.h 0,.str (.ofString "texts") (M.k 0),.ref tl⟩,⟨M.h 1,.str (.ofString "atom_numbers") (M.k 1),.ref an⟩,⟨M.h 2,.str (.ofString "functors") (M.k 2),.ref fl⟩,⟨M.h 3,.str (.ofString "functor_numbers") (M.k 3),.ref fn⟩] n
@[reducible] noncomputable def Zy (M:Hs)(sym:Nat)(hp:Nat)(stk:Nat)(trl:Nat)(n:Nat):Obj:=dictOf [⟨M.h 0,.str (.ofString "symbols") (M.k 0),.ref sym⟩,⟨M.h 1,.str (.ofString "max_heap") (M.k 1),.int (100000) (M.t 1)⟩,⟨M.h 2,.str (.ofString "heap") (M.k 2),.ref hp⟩,⟨M.h 3,.str (.ofString "stack") (M.k 3),.ref stk⟩,⟨M.h 4,.str (.ofString "trail") (M.k 4),.ref trl⟩,⟨M.h 5,.str (.ofString "hb") (M.k 5),.int (0) (M.t 5)⟩,⟨M.h 6,.str (.ofString "bb") (M.k 6),.int (0) (M.t 6)⟩] n
@[reducible] noncomputable def ZL (M:Hs)(inp:Nat)(outp:Nat)(files:Nat)(alia:Nat)(actn:Nat)(pst:Nat)(nxt:Int)(ft8:Tok)(n:Nat):Obj:=dictOf [⟨M.h 0,.str (.ofString "inputs") (M.k 0),.ref inp⟩,⟨M.h 1,.str (.ofString "outputs") (M.k 1),.ref outp⟩,⟨M.h 2,.str (.ofString "current_input") (M.k 2),.int (0) (M.t 2)⟩,⟨M.h 3,.str (.ofString "current_output") (M.k 3),.int (0) (M.t 3)⟩,⟨M.h 4,.str (.ofString "files") (M.k 4),.ref files⟩,⟨M.h 5,.str (.ofString "aliases") (M.k 5),.ref alia⟩,⟨M.h 6,.str (.ofString "actions") (M.k 6),.ref actn⟩,⟨M.h 7,.str (.ofString "past") (M.k 7),.ref pst⟩,⟨M.h 8,.str (.ofString "next_number") (M.k 8),.int nxt ft8⟩] n
@[reducible] noncomputable def ZB (M:Hs)(sym:Nat)(mcode:Nat)(sto:Nat)(xl:Nat)(grd:Nat)(rts:Nat)(bgs:Nat)(dbs:Nat)(n:Nat):Obj:=dictOf [⟨M.h 0,.str (.ofString "symbols") (M.k 0),.ref sym⟩,⟨M.h 1,.str (.ofString "code") (M.k 1),.ref mcode⟩,⟨M.h 2,.str (.ofString "max_heap") (M.k 2),.int (100000) (M.t 2)⟩,⟨M.h 3,.str (.ofString "occurs") (M.k 3),.bool true⟩,⟨M.h 4,.str (.ofString "max_bits") (M.k 4),.int (4096) (M.t 4)⟩,⟨M.h 5,.str (.ofString "store") (M.k 5),.ref sto⟩,⟨M.h 6,.str (.ofString "x") (M.k 6),.ref xl⟩,⟨M.h 7,.str (.ofString "p") (M.k 7),.int (0) (M.t 7)⟩,⟨M.h 8,.str (.ofString "cp") (M.k 8),.int (0) (M.t 8)⟩,⟨M.h 9,.str (.ofString "e") (M.k 9),.int (-1) (M.t 9)⟩,⟨M.h 10,.str (.ofString "b") (M.k 10),.int (-1) (M.t 10)⟩,⟨M.h 11,.str (.ofString "b0") (M.k 11),.int (-1) (M.t 11)⟩,⟨M.h 12,.str (.ofString "mode") (M.k 12),.str (.ofString "read") (M.t 12)⟩,⟨M.h 13,.str (.ofString "s") (M.k 13),.int (0) (M.t 13)⟩,⟨M.h 14,.str (.ofString "guard") (M.k 14),.ref grd⟩,⟨M.h 15,.str (.ofString "roots") (M.k 15),.ref rts⟩,⟨M.h 16,.str (.ofString "bags") (M.k 16),.ref bgs⟩,⟨M.h 17,.str (.ofString "collect_wanted") (M.k 17),.bool false⟩,⟨M.h 18,.str (.ofString "database") (M.k 18),.ref dbs⟩] n
@[reducible] noncomputable def Z8 (M:Hs)(flo:Nat)(oprs:Nat)(flgs:Nat)(n:Nat):Obj:=dictOf [⟨M.h 0,.str (.ofString "streams") (M.k 0),.ref flo⟩,⟨M.h 1,.str (.ofString "operators") (M.k 1),.ref oprs⟩,⟨M.h 2,.str (.ofString "flags") (M.k 2),.ref flgs⟩] n
theorem Za.grow3 {h₀ h:Heap}{L:Addr}{d e:Addr}{o o':Obj}{l:List (Addr×Obj)}(_:News h₀ L h ((e,o')::(d,o)::l))(k:∀ p∈l,p.1<d)(k2:d<e)(D:Za l):Za ((e,o')::(d,o)::l) :=
  Za.cons ⟨k2,allLt_of fun p hp=>Nat.lt_trans (k p hp) k2⟩ (Za.cons (allLt_of k) D)
theorem ZaI {β:Type}{M:Model}{A:Around}{t:Sem β}{Q:β→Shared→Prop}{E:Value→Shared→Prop}{h:Heap}{g:Array GenState}{d:Drawn}{o:OsState}{T:Nat}(k:∀ tk,wpAny M A t Q E ⟨h,g,d,tk,o⟩):wpAny M A t Q E ⟨h,g,d,T,o⟩:=k T
inductive Tgt|v|a (i:Nat) (x:Str)|i (k:Int)
structure SR where
  sn:Nat
  pj:Nat
  cj:Nat
  pe:Nat
  ce:Nat
  wj:Nat
  gj:Nat
  we:Nat
  ge:Nat
  idx:Nat
  ti:Tok
  ti2:Tok
  ta:Tok
  ta2:Tok
  past:Bool
  act:Str
  codes:List Int
  cv:List Value
  gv:List Value
noncomputable def Zf:Type:=(Nat→(Nat))×(Nat→(List (Addr×Obj)))×(Nat→(World))×(Nat→(Program))×(Nat→(Around))×(Nat→(Shared))×(Nat→(Value→Shared→Prop))×(Nat→(List Str))×(Nat→(Str→Option Value))×(Nat→(Heap))×(Nat→(ExcName→Option Value))×(Nat→(Option (List Code)))×(Nat→(Int))×(Nat→(Str))×(Nat→(Tok))×(Nat→(Value))×(Nat→(List Env))×(Nat→(Scope))×(Nat→(List (Str×Addr)))×(Nat→(List (Int×Int)))×(Nat→(List Value))×(Nat→(Obj))×(Nat→(List Int))×(Nat→(Flow→Shared→Prop))×(Nat→(List (Int×Value)))×(Nat→(Bool))×(Nat→(List (Str×Value)))×(Nat→(PySem.W.Dat))×(Nat→(Array Value))×(Nat→(Tgt))×(Nat→(List Stmt))×(Nat→(Env))×(Nat→(SR))×(Nat→(FX))×(Nat→(List Nat))×(Nat→(Hs))
noncomputable def Zf.a (c:Zf):Nat→(Nat):=c.1
noncomputable def Zf.b (c:Zf):Nat→(List (Addr×Obj)):=c.2.1
noncomputable def Zf.c (c:Zf):Nat→(World):=c.2.2.1
noncomputable def Zf.d (c:Zf):Nat→(Program):=c.2.2.2.1
noncomputable def Zf.e (c:Zf):Nat→(Around):=c.2.2.2.2.1
noncomputable def Zf.f (c:Zf):Nat→(Shared):=c.2.2.2.2.2.1
noncomputable def Zf.g (c:Zf):Nat→(Value→Shared→Prop):=c.2.2.2.2.2.2.1
noncomputable def Zf.h (c:Zf):Nat→(List Str):=c.2.2.2.2.2.2.2.1
noncomputable def Zf.i (c:Zf):Nat→(Str→Option Value):=c.2.2.2.2.2.2.2.2.1
noncomputable def Zf.j (c:Zf):Nat→(Heap):=c.2.2.2.2.2.2.2.2.2.1
noncomputable def Zf.k (c:Zf):Nat→(ExcName→Option Value):=c.2.2.2.2.2.2.2.2.2.2.1
noncomputable def Zf.l (c:Zf):Nat→(Option (List Code)):=c.2.2.2.2.2.2.2.2.2.2.2.1
noncomputable def Zf.m (c:Zf):Nat→(Int):=c.2.2.2.2.2.2.2.2.2.2.2.2.1
noncomputable def Zf.n (c:Zf):Nat→(Str):=c.2.2.2.2.2.2.2.2.2.2.2.2.2.1
noncomputable def Zf.o (c:Zf):Nat→(Tok):=c.2.2.2.2.2.2.2.2.2.2.2.2.2.2.1
noncomputable def Zf.p (c:Zf):Nat→(Value):=c.2.2.2.2.2.2.2.2.2.2.2.2.2.2.2.1
noncomputable def Zf.q (c:Zf):Nat→(List Env):=c.2.2.2.2.2.2.2.2.2.2.2.2.2.2.2.2.1
noncomputable def Zf.r (c:Zf):Nat→(Scope):=c.2.2.2.2.2.2.2.2.2.2.2.2.2.2.2.2.2.1
noncomputable def Zf.s (c:Zf):Nat→(List (Str×Addr)):=c.2.2.2.2.2.2.2.2.2.2.2.2.2.2.2.2.2.2.1
noncomputable def Zf.t (c:Zf):Nat→(List (Int×Int)):=c.2.2.2.2.2.2.2.2.2.2.2.2.2.2.2.2.2.2.2.1
noncomputable def Zf.u (c:Zf):Nat→(List Value):=c.2.2.2.2.2.2.2.2.2.2.2.2.2.2.2.2.2.2.2.2.1
noncomputable def Zf.v (c:Zf):Nat→(Obj):=c.2.2.2.2.2.2.2.2.2.2.2.2.2.2.2.2.2.2.2.2.2.1
noncomputable def Zf.w (c:Zf):Nat→(List Int):=c.2.2.2.2.2.2.2.2.2.2.2.2.2.2.2.2.2.2.2.2.2.2.1
noncomputable def Zf.x (c:Zf):Nat→(Flow→Shared→Prop):=c.2.2.2.2.2.2.2.2.2.2.2.2.2.2.2.2.2.2.2.2.2.2.2.1
noncomputable def Zf.y (c:Zf):Nat→(List (Int×Value)):=c.2.2.2.2.2.2.2.2.2.2.2.2.2.2.2.2.2.2.2.2.2.2.2.2.1
noncomputable def Zf.z (c:Zf):Nat→(Bool):=c.2.2.2.2.2.2.2.2.2.2.2.2.2.2.2.2.2.2.2.2.2.2.2.2.2.1
noncomputable def Zf.va (c:Zf):Nat→(List (Str×Value)):=c.2.2.2.2.2.2.2.2.2.2.2.2.2.2.2.2.2.2.2.2.2.2.2.2.2.2.1
noncomputable def Zf.vb (c:Zf):Nat→(PySem.W.Dat):=c.2.2.2.2.2.2.2.2.2.2.2.2.2.2.2.2.2.2.2.2.2.2.2.2.2.2.2.1
noncomputable def Zf.vc (c:Zf):Nat→(Array Value):=c.2.2.2.2.2.2.2.2.2.2.2.2.2.2.2.2.2.2.2.2.2.2.2.2.2.2.2.2.1
noncomputable def Zf.vd (c:Zf):Nat→(Tgt):=c.2.2.2.2.2.2.2.2.2.2.2.2.2.2.2.2.2.2.2.2.2.2.2.2.2.2.2.2.2.1
noncomputable def Zf.ve (c:Zf):Nat→(List Stmt):=c.2.2.2.2.2.2.2.2.2.2.2.2.2.2.2.2.2.2.2.2.2.2.2.2.2.2.2.2.2.2.1
noncomputable def Zf.vf (c:Zf):Nat→(Env):=c.2.2.2.2.2.2.2.2.2.2.2.2.2.2.2.2.2.2.2.2.2.2.2.2.2.2.2.2.2.2.2.1
noncomputable def Zf.vg (c:Zf):Nat→(SR):=c.2.2.2.2.2.2.2.2.2.2.2.2.2.2.2.2.2.2.2.2.2.2.2.2.2.2.2.2.2.2.2.2.1
noncomputable def Zf.vh (c:Zf):Nat→(FX):=c.2.2.2.2.2.2.2.2.2.2.2.2.2.2.2.2.2.2.2.2.2.2.2.2.2.2.2.2.2.2.2.2.2.1
noncomputable def Zf.vi (c:Zf):Nat→(List Nat):=c.2.2.2.2.2.2.2.2.2.2.2.2.2.2.2.2.2.2.2.2.2.2.2.2.2.2.2.2.2.2.2.2.2.2.1
noncomputable def Zf.vj (c:Zf):Nat→(Hs):=c.2.2.2.2.2.2.2.2.2.2.2.2.2.2.2.2.2.2.2.2.2.2.2.2.2.2.2.2.2.2.2.2.2.2.2
noncomputable def Zf.sa (c:Zf)(x:Nat→(Nat)):Zf:=(x,c.2)
noncomputable def Zf.sb (c:Zf)(x:Nat→(List (Addr×Obj))):Zf:=(c.1,x,c.2.2)
noncomputable def Zf.sc (c:Zf)(x:Nat→(World)):Zf:=(c.1,c.2.1,x,c.2.2.2)
noncomputable def Zf.sd (c:Zf)(x:Nat→(Program)):Zf:=(c.1,c.2.1,c.2.2.1,x,c.2.2.2.2)
noncomputable def Zf.se (c:Zf)(x:Nat→(Around)):Zf:=(c.1,c.2.1,c.2.2.1,c.2.2.2.1,x,c.2.2.2.2.2)
noncomputable def Zf.sf (c:Zf)(x:Nat→(Shared)):Zf:=(c.1,c.2.1,c.2.2.1,c.2.2.2.1,c.2.2.2.2.1,x,c.2.2.2.2.2.2)
noncomputable def Zf.sg (c:Zf)(x:Nat→(Value→Shared→Prop)):Zf:=(c.1,c.2.1,c.2.2.1,c.2.2.2.1,c.2.2.2.2.1,c.2.2.2.2.2.1,x,c.2.2.2.2.2.2.2)
noncomputable def Zf.sh (c:Zf)(x:Nat→(List Str)):Zf:=(c.1,c.2.1,c.2.2.1,c.2.2.2.1,c.2.2.2.2.1,c.2.2.2.2.2.1,c.2.2.2.2.2.2.1,x,c.2.2.2.2.2.2.2.2)
noncomputable def Zf.si (c:Zf)(x:Nat→(Str→Option Value)):Zf:=(c.1,c.2.1,c.2.2.1,c.2.2.2.1,c.2.2.2.2.1,c.2.2.2.2.2.1,c.2.2.2.2.2.2.1,c.2.2.2.2.2.2.2.1,x,c.2.2.2.2.2.2.2.2.2)
noncomputable def Zf.sj (c:Zf)(x:Nat→(Heap)):Zf:=(c.1,c.2.1,c.2.2.1,c.2.2.2.1,c.2.2.2.2.1,c.2.2.2.2.2.1,c.2.2.2.2.2.2.1,c.2.2.2.2.2.2.2.1,c.2.2.2.2.2.2.2.2.1,x,c.2.2.2.2.2.2.2.2.2.2)
noncomputable def Zf.sk (c:Zf)(x:Nat→(ExcName→Option Value)):Zf:=(c.1,c.2.1,c.2.2.1,c.2.2.2.1,c.2.2.2.2.1,c.2.2.2.2.2.1,c.2.2.2.2.2.2.1,c.2.2.2.2.2.2.2.1,c.2.2.2.2.2.2.2.2.1,c.2.2.2.2.2.2.2.2.2.1,x,c.2.2.2.2.2.2.2.2.2.2.2)
noncomputable def Zf.sl (c:Zf)(x:Nat→(Option (List Code))):Zf:=(c.1,c.2.1,c.2.2.1,c.2.2.2.1,c.2.2.2.2.1,c.2.2.2.2.2.1,c.2.2.2.2.2.2.1,c.2.2.2.2.2.2.2.1,c.2.2.2.2.2.2.2.2.1,c.2.2.2.2.2.2.2.2.2.1,c.2.2.2.2.2.2.2.2.2.2.1,x,c.2.2.2.2.2.2.2.2.2.2.2.2)
noncomputable def Zf.sm (c:Zf)(x:Nat→(Int)):Zf:=(c.1,c.2.1,c.2.2.1,c.2.2.2.1,c.2.2.2.2.1,c.2.2.2.2.2.1,c.2.2.2.2.2.2.1,c.2.2.2.2.2.2.2.1,c.2.2.2.2.2.2.2.2.1,c.2.2.2.2.2.2.2.2.2.1,c.2.2.2.2.2.2.2.2.2.2.1,c.2.2.2.2.2.2.2.2.2.2.2.1,x,c.2.2.2.2.2.2.2.2.2.2.2.2.2)
noncomputable def Zf.sn (c:Zf)(x:Nat→(Str)):Zf:=(c.1,c.2.1,c.2.2.1,c.2.2.2.1,c.2.2.2.2.1,c.2.2.2.2.2.1,c.2.2.2.2.2.2.1,c.2.2.2.2.2.2.2.1,c.2.2.2.2.2.2.2.2.1,c.2.2.2.2.2.2.2.2.2.1,c.2.2.2.2.2.2.2.2.2.2.1,c.2.2.2.2.2.2.2.2.2.2.2.1,c.2.2.2.2.2.2.2.2.2.2.2.2.1,x,c.2.2.2.2.2.2.2.2.2.2.2.2.2.2)
noncomputable def Zf.so (c:Zf)(x:Nat→(Tok)):Zf:=(c.1,c.2.1,c.2.2.1,c.2.2.2.1,c.2.2.2.2.1,c.2.2.2.2.2.1,c.2.2.2.2.2.2.1,c.2.2.2.2.2.2.2.1,c.2.2.2.2.2.2.2.2.1,c.2.2.2.2.2.2.2.2.2.1,c.2.2.2.2.2.2.2.2.2.2.1,c.2.2.2.2.2.2.2.2.2.2.2.1,c.2.2.2.2.2.2.2.2.2.2.2.2.1,c.2.2.2.2.2.2.2.2.2.2.2.2.2.1,x,c.2.2.2.2.2.2.2.2.2.2.2.2.2.2.2)
noncomputable def Zf.sp (c:Zf)(x:Nat→(Value)):Zf:=(c.1,c.2.1,c.2.2.1,c.2.2.2.1,c.2.2.2.2.1,c.2.2.2.2.2.1,c.2.2.2.2.2.2.1,c.2.2.2.2.2.2.2.1,c.2.2.2.2.2.2.2.2.1,c.2.2.2.2.2.2.2.2.2.1,c.2.2.2.2.2.2.2.2.2.2.1,c.2.2.2.2.2.2.2.2.2.2.2.1,c.2.2.2.2.2.2.2.2.2.2.2.2.1,c.2.2.2.2.2.2.2.2.2.2.2.2.2.1,c.2.2.2.2.2.2.2.2.2.2.2.2.2.2.1,x,c.2.2.2.2.2.2.2.2.2.2.2.2.2.2.2.2)
noncomputable def Zf.sq (c:Zf)(x:Nat→(List Env)):Zf:=(c.1,c.2.1,c.2.2.1,c.2.2.2.1,c.2.2.2.2.1,c.2.2.2.2.2.1,c.2.2.2.2.2.2.1,c.2.2.2.2.2.2.2.1,c.2.2.2.2.2.2.2.2.1,c.2.2.2.2.2.2.2.2.2.1,c.2.2.2.2.2.2.2.2.2.2.1,c.2.2.2.2.2.2.2.2.2.2.2.1,c.2.2.2.2.2.2.2.2.2.2.2.2.1,c.2.2.2.2.2.2.2.2.2.2.2.2.2.1,c.2.2.2.2.2.2.2.2.2.2.2.2.2.2.1,c.2.2.2.2.2.2.2.2.2.2.2.2.2.2.2.1,x,c.2.2.2.2.2.2.2.2.2.2.2.2.2.2.2.2.2)
noncomputable def Zf.sr (c:Zf)(x:Nat→(Scope)):Zf:=(c.1,c.2.1,c.2.2.1,c.2.2.2.1,c.2.2.2.2.1,c.2.2.2.2.2.1,c.2.2.2.2.2.2.1,c.2.2.2.2.2.2.2.1,c.2.2.2.2.2.2.2.2.1,c.2.2.2.2.2.2.2.2.2.1,c.2.2.2.2.2.2.2.2.2.2.1,c.2.2.2.2.2.2.2.2.2.2.2.1,c.2.2.2.2.2.2.2.2.2.2.2.2.1,c.2.2.2.2.2.2.2.2.2.2.2.2.2.1,c.2.2.2.2.2.2.2.2.2.2.2.2.2.2.1,c.2.2.2.2.2.2.2.2.2.2.2.2.2.2.2.1,c.2.2.2.2.2.2.2.2.2.2.2.2.2.2.2.2.1,x,c.2.2.2.2.2.2.2.2.2.2.2.2.2.2.2.2.2.2)
noncomputable def Zf.ss (c:Zf)(x:Nat→(List (Str×Addr))):Zf:=(c.1,c.2.1,c.2.2.1,c.2.2.2.1,c.2.2.2.2.1,c.2.2.2.2.2.1,c.2.2.2.2.2.2.1,c.2.2.2.2.2.2.2.1,c.2.2.2.2.2.2.2.2.1,c.2.2.2.2.2.2.2.2.2.1,c.2.2.2.2.2.2.2.2.2.2.1,c.2.2.2.2.2.2.2.2.2.2.2.1,c.2.2.2.2.2.2.2.2.2.2.2.2.1,c.2.2.2.2.2.2.2.2.2.2.2.2.2.1,c.2.2.2.2.2.2.2.2.2.2.2.2.2.2.1,c.2.2.2.2.2.2.2.2.2.2.2.2.2.2.2.1,c.2.2.2.2.2.2.2.2.2.2.2.2.2.2.2.2.1,c.2.2.2.2.2.2.2.2.2.2.2.2.2.2.2.2.2.1,x,c.2.2.2.2.2.2.2.2.2.2.2.2.2.2.2.2.2.2.2)
noncomputable def Zf.st (c:Zf)(x:Nat→(List (Int×Int))):Zf:=(c.1,c.2.1,c.2.2.1,c.2.2.2.1,c.2.2.2.2.1,c.2.2.2.2.2.1,c.2.2.2.2.2.2.1,c.2.2.2.2.2.2.2.1,c.2.2.2.2.2.2.2.2.1,c.2.2.2.2.2.2.2.2.2.1,c.2.2.2.2.2.2.2.2.2.2.1,c.2.2.2.2.2.2.2.2.2.2.2.1,c.2.2.2.2.2.2.2.2.2.2.2.2.1,c.2.2.2.2.2.2.2.2.2.2.2.2.2.1,c.2.2.2.2.2.2.2.2.2.2.2.2.2.2.1,c.2.2.2.2.2.2.2.2.2.2.2.2.2.2.2.1,c.2.2.2.2.2.2.2.2.2.2.2.2.2.2.2.2.1,c.2.2.2.2.2.2.2.2.2.2.2.2.2.2.2.2.2.1,c.2.2.2.2.2.2.2.2.2.2.2.2.2.2.2.2.2.2.1,x,c.2.2.2.2.2.2.2.2.2.2.2.2.2.2.2.2.2.2.2.2)
noncomputable def Zf.su (c:Zf)(x:Nat→(List Value)):Zf:=(c.1,c.2.1,c.2.2.1,c.2.2.2.1,c.2.2.2.2.1,c.2.2.2.2.2.1,c.2.2.2.2.2.2.1,c.2.2.2.2.2.2.2.1,c.2.2.2.2.2.2.2.2.1,c.2.2.2.2.2.2.2.2.2.1,c.2.2.2.2.2.2.2.2.2.2.1,c.2.2.2.2.2.2.2.2.2.2.2.1,c.2.2.2.2.2.2.2.2.2.2.2.2.1,c.2.2.2.2.2.2.2.2.2.2.2.2.2.1,c.2.2.2.2.2.2.2.2.2.2.2.2.2.2.1,c.2.2.2.2.2.2.2.2.2.2.2.2.2.2.2.1,c.2.2.2.2.2.2.2.2.2.2.2.2.2.2.2.2.1,c.2.2.2.2.2.2.2.2.2.2.2.2.2.2.2.2.2.1,c.2.2.2.2.2.2.2.2.2.2.2.2.2.2.2.2.2.2.1,c.2.2.2.2.2.2.2.2.2.2.2.2.2.2.2.2.2.2.2.1,x,c.2.2.2.2.2.2.2.2.2.2.2.2.2.2.2.2.2.2.2.2.2)
noncomputable def Zf.sv (c:Zf)(x:Nat→(Obj)):Zf:=(c.1,c.2.1,c.2.2.1,c.2.2.2.1,c.2.2.2.2.1,c.2.2.2.2.2.1,c.2.2.2.2.2.2.1,c.2.2.2.2.2.2.2.1,c.2.2.2.2.2.2.2.2.1,c.2.2.2.2.2.2.2.2.2.1,c.2.2.2.2.2.2.2.2.2.2.1,c.2.2.2.2.2.2.2.2.2.2.2.1,c.2.2.2.2.2.2.2.2.2.2.2.2.1,c.2.2.2.2.2.2.2.2.2.2.2.2.2.1,c.2.2.2.2.2.2.2.2.2.2.2.2.2.2.1,c.2.2.2.2.2.2.2.2.2.2.2.2.2.2.2.1,c.2.2.2.2.2.2.2.2.2.2.2.2.2.2.2.2.1,c.2.2.2.2.2.2.2.2.2.2.2.2.2.2.2.2.2.1,c.2.2.2.2.2.2.2.2.2.2.2.2.2.2.2.2.2.2.1,c.2.2.2.2.2.2.2.2.2.2.2.2.2.2.2.2.2.2.2.1,c.2.2.2.2.2.2.2.2.2.2.2.2.2.2.2.2.2.2.2.2.1,x,c.2.2.2.2.2.2.2.2.2.2.2.2.2.2.2.2.2.2.2.2.2.2)
noncomputable def Zf.sw (c:Zf)(x:Nat→(List Int)):Zf:=(c.1,c.2.1,c.2.2.1,c.2.2.2.1,c.2.2.2.2.1,c.2.2.2.2.2.1,c.2.2.2.2.2.2.1,c.2.2.2.2.2.2.2.1,c.2.2.2.2.2.2.2.2.1,c.2.2.2.2.2.2.2.2.2.1,c.2.2.2.2.2.2.2.2.2.2.1,c.2.2.2.2.2.2.2.2.2.2.2.1,c.2.2.2.2.2.2.2.2.2.2.2.2.1,c.2.2.2.2.2.2.2.2.2.2.2.2.2.1,c.2.2.2.2.2.2.2.2.2.2.2.2.2.2.1,c.2.2.2.2.2.2.2.2.2.2.2.2.2.2.2.1,c.2.2.2.2.2.2.2.2.2.2.2.2.2.2.2.2.1,c.2.2.2.2.2.2.2.2.2.2.2.2.2.2.2.2.2.1,c.2.2.2.2.2.2.2.2.2.2.2.2.2.2.2.2.2.2.1,c.2.2.2.2.2.2.2.2.2.2.2.2.2.2.2.2.2.2.2.1,c.2.2.2.2.2.2.2.2.2.2.2.2.2.2.2.2.2.2.2.2.1,c.2.2.2.2.2.2.2.2.2.2.2.2.2.2.2.2.2.2.2.2.2.1,x,c.2.2.2.2.2.2.2.2.2.2.2.2.2.2.2.2.2.2.2.2.2.2.2)
noncomputable def Zf.sx (c:Zf)(x:Nat→(Flow→Shared→Prop)):Zf:=(c.1,c.2.1,c.2.2.1,c.2.2.2.1,c.2.2.2.2.1,c.2.2.2.2.2.1,c.2.2.2.2.2.2.1,c.2.2.2.2.2.2.2.1,c.2.2.2.2.2.2.2.2.1,c.2.2.2.2.2.2.2.2.2.1,c.2.2.2.2.2.2.2.2.2.2.1,c.2.2.2.2.2.2.2.2.2.2.2.1,c.2.2.2.2.2.2.2.2.2.2.2.2.1,c.2.2.2.2.2.2.2.2.2.2.2.2.2.1,c.2.2.2.2.2.2.2.2.2.2.2.2.2.2.1,c.2.2.2.2.2.2.2.2.2.2.2.2.2.2.2.1,c.2.2.2.2.2.2.2.2.2.2.2.2.2.2.2.2.1,c.2.2.2.2.2.2.2.2.2.2.2.2.2.2.2.2.2.1,c.2.2.2.2.2.2.2.2.2.2.2.2.2.2.2.2.2.2.1,c.2.2.2.2.2.2.2.2.2.2.2.2.2.2.2.2.2.2.2.1,c.2.2.2.2.2.2.2.2.2.2.2.2.2.2.2.2.2.2.2.2.1,c.2.2.2.2.2.2.2.2.2.2.2.2.2.2.2.2.2.2.2.2.2.1,c.2.2.2.2.2.2.2.2.2.2.2.2.2.2.2.2.2.2.2.2.2.2.1,x,c.2.2.2.2.2.2.2.2.2.2.2.2.2.2.2.2.2.2.2.2.2.2.2.2)
noncomputable def Zf.sy (c:Zf)(x:Nat→(List (Int×Value))):Zf:=(c.1,c.2.1,c.2.2.1,c.2.2.2.1,c.2.2.2.2.1,c.2.2.2.2.2.1,c.2.2.2.2.2.2.1,c.2.2.2.2.2.2.2.1,c.2.2.2.2.2.2.2.2.1,c.2.2.2.2.2.2.2.2.2.1,c.2.2.2.2.2.2.2.2.2.2.1,c.2.2.2.2.2.2.2.2.2.2.2.1,c.2.2.2.2.2.2.2.2.2.2.2.2.1,c.2.2.2.2.2.2.2.2.2.2.2.2.2.1,c.2.2.2.2.2.2.2.2.2.2.2.2.2.2.1,c.2.2.2.2.2.2.2.2.2.2.2.2.2.2.2.1,c.2.2.2.2.2.2.2.2.2.2.2.2.2.2.2.2.1,c.2.2.2.2.2.2.2.2.2.2.2.2.2.2.2.2.2.1,c.2.2.2.2.2.2.2.2.2.2.2.2.2.2.2.2.2.2.1,c.2.2.2.2.2.2.2.2.2.2.2.2.2.2.2.2.2.2.2.1,c.2.2.2.2.2.2.2.2.2.2.2.2.2.2.2.2.2.2.2.2.1,c.2.2.2.2.2.2.2.2.2.2.2.2.2.2.2.2.2.2.2.2.2.1,c.2.2.2.2.2.2.2.2.2.2.2.2.2.2.2.2.2.2.2.2.2.2.1,c.2.2.2.2.2.2.2.2.2.2.2.2.2.2.2.2.2.2.2.2.2.2.2.1,x,c.2.2.2.2.2.2.2.2.2.2.2.2.2.2.2.2.2.2.2.2.2.2.2.2.2)
noncomputable def Zf.sz (c:Zf)(x:Nat→(Bool)):Zf:=(c.1,c.2.1,c.2.2.1,c.2.2.2.1,c.2.2.2.2.1,c.2.2.2.2.2.1,c.2.2.2.2.2.2.1,c.2.2.2.2.2.2.2.1,c.2.2.2.2.2.2.2.2.1,c.2.2.2.2.2.2.2.2.2.1,c.2.2.2.2.2.2.2.2.2.2.1,c.2.2.2.2.2.2.2.2.2.2.2.1,c.2.2.2.2.2.2.2.2.2.2.2.2.1,c.2.2.2.2.2.2.2.2.2.2.2.2.2.1,c.2.2.2.2.2.2.2.2.2.2.2.2.2.2.1,c.2.2.2.2.2.2.2.2.2.2.2.2.2.2.2.1,c.2.2.2.2.2.2.2.2.2.2.2.2.2.2.2.2.1,c.2.2.2.2.2.2.2.2.2.2.2.2.2.2.2.2.2.1,c.2.2.2.2.2.2.2.2.2.2.2.2.2.2.2.2.2.2.1,c.2.2.2.2.2.2.2.2.2.2.2.2.2.2.2.2.2.2.2.1,c.2.2.2.2.2.2.2.2.2.2.2.2.2.2.2.2.2.2.2.2.1,c.2.2.2.2.2.2.2.2.2.2.2.2.2.2.2.2.2.2.2.2.2.1,c.2.2.2.2.2.2.2.2.2.2.2.2.2.2.2.2.2.2.2.2.2.2.1,c.2.2.2.2.2.2.2.2.2.2.2.2.2.2.2.2.2.2.2.2.2.2.2.1,c.2.2.2.2.2.2.2.2.2.2.2.2.2.2.2.2.2.2.2.2.2.2.2.2.1,x,c.2.2.2.2.2.2.2.2.2.2.2.2.2.2.2.2.2.2.2.2.2.2.2.2.2.2)
noncomputable def Zf.sva (c:Zf)(x:Nat→(List (Str×Value))):Zf:=(c.1,c.2.1,c.2.2.1,c.2.2.2.1,c.2.2.2.2.1,c.2.2.2.2.2.1,c.2.2.2.2.2.2.1,c.2.2.2.2.2.2.2.1,c.2.2.2.2.2.2.2.2.1,c.2.2.2.2.2.2.2.2.2.1,c.2.2.2.2.2.2.2.2.2.2.1,c.2.2.2.2.2.2.2.2.2.2.2.1,c.2.2.2.2.2.2.2.2.2.2.2.2.1,c.2.2.2.2.2.2.2.2.2.2.2.2.2.1,c.2.2.2.2.2.2.2.2.2.2.2.2.2.2.1,c.2.2.2.2.2.2.2.2.2.2.2.2.2.2.2.1,c.2.2.2.2.2.2.2.2.2.2.2.2.2.2.2.2.1,c.2.2.2.2.2.2.2.2.2.2.2.2.2.2.2.2.2.1,c.2.2.2.2.2.2.2.2.2.2.2.2.2.2.2.2.2.2.1,c.2.2.2.2.2.2.2.2.2.2.2.2.2.2.2.2.2.2.2.1,c.2.2.2.2.2.2.2.2.2.2.2.2.2.2.2.2.2.2.2.2.1,c.2.2.2.2.2.2.2.2.2.2.2.2.2.2.2.2.2.2.2.2.2.1,c.2.2.2.2.2.2.2.2.2.2.2.2.2.2.2.2.2.2.2.2.2.2.1,c.2.2.2.2.2.2.2.2.2.2.2.2.2.2.2.2.2.2.2.2.2.2.2.1,c.2.2.2.2.2.2.2.2.2.2.2.2.2.2.2.2.2.2.2.2.2.2.2.2.1,c.2.2.2.2.2.2.2.2.2.2.2.2.2.2.2.2.2.2.2.2.2.2.2.2.2.1,x,c.2.2.2.2.2.2.2.2.2.2.2.2.2.2.2.2.2.2.2.2.2.2.2.2.2.2.2)
noncomputable def Zf.svb (c:Zf)(x:Nat→(PySem.W.Dat)):Zf:=(c.1,c.2.1,c.2.2.1,c.2.2.2.1,c.2.2.2.2.1,c.2.2.2.2.2.1,c.2.2.2.2.2.2.1,c.2.2.2.2.2.2.2.1,c.2.2.2.2.2.2.2.2.1,c.2.2.2.2.2.2.2.2.2.1,c.2.2.2.2.2.2.2.2.2.2.1,c.2.2.2.2.2.2.2.2.2.2.2.1,c.2.2.2.2.2.2.2.2.2.2.2.2.1,c.2.2.2.2.2.2.2.2.2.2.2.2.2.1,c.2.2.2.2.2.2.2.2.2.2.2.2.2.2.1,c.2.2.2.2.2.2.2.2.2.2.2.2.2.2.2.1,c.2.2.2.2.2.2.2.2.2.2.2.2.2.2.2.2.1,c.2.2.2.2.2.2.2.2.2.2.2.2.2.2.2.2.2.1,c.2.2.2.2.2.2.2.2.2.2.2.2.2.2.2.2.2.2.1,c.2.2.2.2.2.2.2.2.2.2.2.2.2.2.2.2.2.2.2.1,c.2.2.2.2.2.2.2.2.2.2.2.2.2.2.2.2.2.2.2.2.1,c.2.2.2.2.2.2.2.2.2.2.2.2.2.2.2.2.2.2.2.2.2.1,c.2.2.2.2.2.2.2.2.2.2.2.2.2.2.2.2.2.2.2.2.2.2.1,c.2.2.2.2.2.2.2.2.2.2.2.2.2.2.2.2.2.2.2.2.2.2.2.1,c.2.2.2.2.2.2.2.2.2.2.2.2.2.2.2.2.2.2.2.2.2.2.2.2.1,c.2.2.2.2.2.2.2.2.2.2.2.2.2.2.2.2.2.2.2.2.2.2.2.2.2.1,c.2.2.2.2.2.2.2.2.2.2.2.2.2.2.2.2.2.2.2.2.2.2.2.2.2.2.1,x,c.2.2.2.2.2.2.2.2.2.2.2.2.2.2.2.2.2.2.2.2.2.2.2.2.2.2.2.2)
noncomputable def Zf.svc (c:Zf)(x:Nat→(Array Value)):Zf:=(c.1,c.2.1,c.2.2.1,c.2.2.2.1,c.2.2.2.2.1,c.2.2.2.2.2.1,c.2.2.2.2.2.2.1,c.2.2.2.2.2.2.2.1,c.2.2.2.2.2.2.2.2.1,c.2.2.2.2.2.2.2.2.2.1,c.2.2.2.2.2.2.2.2.2.2.1,c.2.2.2.2.2.2.2.2.2.2.2.1,c.2.2.2.2.2.2.2.2.2.2.2.2.1,c.2.2.2.2.2.2.2.2.2.2.2.2.2.1,c.2.2.2.2.2.2.2.2.2.2.2.2.2.2.1,c.2.2.2.2.2.2.2.2.2.2.2.2.2.2.2.1,c.2.2.2.2.2.2.2.2.2.2.2.2.2.2.2.2.1,c.2.2.2.2.2.2.2.2.2.2.2.2.2.2.2.2.2.1,c.2.2.2.2.2.2.2.2.2.2.2.2.2.2.2.2.2.2.1,c.2.2.2.2.2.2.2.2.2.2.2.2.2.2.2.2.2.2.2.1,c.2.2.2.2.2.2.2.2.2.2.2.2.2.2.2.2.2.2.2.2.1,c.2.2.2.2.2.2.2.2.2.2.2.2.2.2.2.2.2.2.2.2.2.1,c.2.2.2.2.2.2.2.2.2.2.2.2.2.2.2.2.2.2.2.2.2.2.1,c.2.2.2.2.2.2.2.2.2.2.2.2.2.2.2.2.2.2.2.2.2.2.2.1,c.2.2.2.2.2.2.2.2.2.2.2.2.2.2.2.2.2.2.2.2.2.2.2.2.1,c.2.2.2.2.2.2.2.2.2.2.2.2.2.2.2.2.2.2.2.2.2.2.2.2.2.1,c.2.2.2.2.2.2.2.2.2.2.2.2.2.2.2.2.2.2.2.2.2.2.2.2.2.2.1,c.2.2.2.2.2.2.2.2.2.2.2.2.2.2.2.2.2.2.2.2.2.2.2.2.2.2.2.1,x,c.2.2.2.2.2.2.2.2.2.2.2.2.2.2.2.2.2.2.2.2.2.2.2.2.2.2.2.2.2)
noncomputable def Zf.svd (c:Zf)(x:Nat→(Tgt)):Zf:=(c.1,c.2.1,c.2.2.1,c.2.2.2.1,c.2.2.2.2.1,c.2.2.2.2.2.1,c.2.2.2.2.2.2.1,c.2.2.2.2.2.2.2.1,c.2.2.2.2.2.2.2.2.1,c.2.2.2.2.2.2.2.2.2.1,c.2.2.2.2.2.2.2.2.2.2.1,c.2.2.2.2.2.2.2.2.2.2.2.1,c.2.2.2.2.2.2.2.2.2.2.2.2.1,c.2.2.2.2.2.2.2.2.2.2.2.2.2.1,c.2.2.2.2.2.2.2.2.2.2.2.2.2.2.1,c.2.2.2.2.2.2.2.2.2.2.2.2.2.2.2.1,c.2.2.2.2.2.2.2.2.2.2.2.2.2.2.2.2.1,c.2.2.2.2.2.2.2.2.2.2.2.2.2.2.2.2.2.1,c.2.2.2.2.2.2.2.2.2.2.2.2.2.2.2.2.2.2.1,c.2.2.2.2.2.2.2.2.2.2.2.2.2.2.2.2.2.2.2.1,c.2.2.2.2.2.2.2.2.2.2.2.2.2.2.2.2.2.2.2.2.1,c.2.2.2.2.2.2.2.2.2.2.2.2.2.2.2.2.2.2.2.2.2.1,c.2.2.2.2.2.2.2.2.2.2.2.2.2.2.2.2.2.2.2.2.2.2.1,c.2.2.2.2.2.2.2.2.2.2.2.2.2.2.2.2.2.2.2.2.2.2.2.1,c.2.2.2.2.2.2.2.2.2.2.2.2.2.2.2.2.2.2.2.2.2.2.2.2.1,c.2.2.2.2.2.2.2.2.2.2.2.2.2.2.2.2.2.2.2.2.2.2.2.2.2.1,c.2.2.2.2.2.2.2.2.2.2.2.2.2.2.2.2.2.2.2.2.2.2.2.2.2.2.1,c.2.2.2.2.2.2.2.2.2.2.2.2.2.2.2.2.2.2.2.2.2.2.2.2.2.2.2.1,c.2.2.2.2.2.2.2.2.2.2.2.2.2.2.2.2.2.2.2.2.2.2.2.2.2.2.2.2.1,x,c.2.2.2.2.2.2.2.2.2.2.2.2.2.2.2.2.2.2.2.2.2.2.2.2.2.2.2.2.2.2)
noncomputable def Zf.sve (c:Zf)(x:Nat→(List Stmt)):Zf:=(c.1,c.2.1,c.2.2.1,c.2.2.2.1,c.2.2.2.2.1,c.2.2.2.2.2.1,c.2.2.2.2.2.2.1,c.2.2.2.2.2.2.2.1,c.2.2.2.2.2.2.2.2.1,c.2.2.2.2.2.2.2.2.2.1,c.2.2.2.2.2.2.2.2.2.2.1,c.2.2.2.2.2.2.2.2.2.2.2.1,c.2.2.2.2.2.2.2.2.2.2.2.2.1,c.2.2.2.2.2.2.2.2.2.2.2.2.2.1,c.2.2.2.2.2.2.2.2.2.2.2.2.2.2.1,c.2.2.2.2.2.2.2.2.2.2.2.2.2.2.2.1,c.2.2.2.2.2.2.2.2.2.2.2.2.2.2.2.2.1,c.2.2.2.2.2.2.2.2.2.2.2.2.2.2.2.2.2.1,c.2.2.2.2.2.2.2.2.2.2.2.2.2.2.2.2.2.2.1,c.2.2.2.2.2.2.2.2.2.2.2.2.2.2.2.2.2.2.2.1,c.2.2.2.2.2.2.2.2.2.2.2.2.2.2.2.2.2.2.2.2.1,c.2.2.2.2.2.2.2.2.2.2.2.2.2.2.2.2.2.2.2.2.2.1,c.2.2.2.2.2.2.2.2.2.2.2.2.2.2.2.2.2.2.2.2.2.2.1,c.2.2.2.2.2.2.2.2.2.2.2.2.2.2.2.2.2.2.2.2.2.2.2.1,c.2.2.2.2.2.2.2.2.2.2.2.2.2.2.2.2.2.2.2.2.2.2.2.2.1,c.2.2.2.2.2.2.2.2.2.2.2.2.2.2.2.2.2.2.2.2.2.2.2.2.2.1,c.2.2.2.2.2.2.2.2.2.2.2.2.2.2.2.2.2.2.2.2.2.2.2.2.2.2.1,c.2.2.2.2.2.2.2.2.2.2.2.2.2.2.2.2.2.2.2.2.2.2.2.2.2.2.2.1,c.2.2.2.2.2.2.2.2.2.2.2.2.2.2.2.2.2.2.2.2.2.2.2.2.2.2.2.2.1,c.2.2.2.2.2.2.2.2.2.2.2.2.2.2.2.2.2.2.2.2.2.2.2.2.2.2.2.2.2.1,x,c.2.2.2.2.2.2.2.2.2.2.2.2.2.2.2.2.2.2.2.2.2.2.2.2.2.2.2.2.2.2.2)
noncomputable def Zf.svf (c:Zf)(x:Nat→(Env)):Zf:=(c.1,c.2.1,c.2.2.1,c.2.2.2.1,c.2.2.2.2.1,c.2.2.2.2.2.1,c.2.2.2.2.2.2.1,c.2.2.2.2.2.2.2.1,c.2.2.2.2.2.2.2.2.1,c.2.2.2.2.2.2.2.2.2.1,c.2.2.2.2.2.2.2.2.2.2.1,c.2.2.2.2.2.2.2.2.2.2.2.1,c.2.2.2.2.2.2.2.2.2.2.2.2.1,c.2.2.2.2.2.2.2.2.2.2.2.2.2.1,c.2.2.2.2.2.2.2.2.2.2.2.2.2.2.1,c.2.2.2.2.2.2.2.2.2.2.2.2.2.2.2.1,c.2.2.2.2.2.2.2.2.2.2.2.2.2.2.2.2.1,c.2.2.2.2.2.2.2.2.2.2.2.2.2.2.2.2.2.1,c.2.2.2.2.2.2.2.2.2.2.2.2.2.2.2.2.2.2.1,c.2.2.2.2.2.2.2.2.2.2.2.2.2.2.2.2.2.2.2.1,c.2.2.2.2.2.2.2.2.2.2.2.2.2.2.2.2.2.2.2.2.1,c.2.2.2.2.2.2.2.2.2.2.2.2.2.2.2.2.2.2.2.2.2.1,c.2.2.2.2.2.2.2.2.2.2.2.2.2.2.2.2.2.2.2.2.2.2.1,c.2.2.2.2.2.2.2.2.2.2.2.2.2.2.2.2.2.2.2.2.2.2.2.1,c.2.2.2.2.2.2.2.2.2.2.2.2.2.2.2.2.2.2.2.2.2.2.2.2.1,c.2.2.2.2.2.2.2.2.2.2.2.2.2.2.2.2.2.2.2.2.2.2.2.2.2.1,c.2.2.2.2.2.2.2.2.2.2.2.2.2.2.2.2.2.2.2.2.2.2.2.2.2.2.1,c.2.2.2.2.2.2.2.2.2.2.2.2.2.2.2.2.2.2.2.2.2.2.2.2.2.2.2.1,c.2.2.2.2.2.2.2.2.2.2.2.2.2.2.2.2.2.2.2.2.2.2.2.2.2.2.2.2.1,c.2.2.2.2.2.2.2.2.2.2.2.2.2.2.2.2.2.2.2.2.2.2.2.2.2.2.2.2.2.1,c.2.2.2.2.2.2.2.2.2.2.2.2.2.2.2.2.2.2.2.2.2.2.2.2.2.2.2.2.2.2.1,x,c.2.2.2.2.2.2.2.2.2.2.2.2.2.2.2.2.2.2.2.2.2.2.2.2.2.2.2.2.2.2.2.2)
noncomputable def Zf.svg (c:Zf)(x:Nat→(SR)):Zf:=(c.1,c.2.1,c.2.2.1,c.2.2.2.1,c.2.2.2.2.1,c.2.2.2.2.2.1,c.2.2.2.2.2.2.1,c.2.2.2.2.2.2.2.1,c.2.2.2.2.2.2.2.2.1,c.2.2.2.2.2.2.2.2.2.1,c.2.2.2.2.2.2.2.2.2.2.1,c.2.2.2.2.2.2.2.2.2.2.2.1,c.2.2.2.2.2.2.2.2.2.2.2.2.1,c.2.2.2.2.2.2.2.2.2.2.2.2.2.1,c.2.2.2.2.2.2.2.2.2.2.2.2.2.2.1,c.2.2.2.2.2.2.2.2.2.2.2.2.2.2.2.1,c.2.2.2.2.2.2.2.2.2.2.2.2.2.2.2.2.1,c.2.2.2.2.2.2.2.2.2.2.2.2.2.2.2.2.2.1,c.2.2.2.2.2.2.2.2.2.2.2.2.2.2.2.2.2.2.1,c.2.2.2.2.2.2.2.2.2.2.2.2.2.2.2.2.2.2.2.1,c.2.2.2.2.2.2.2.2.2.2.2.2.2.2.2.2.2.2.2.2.1,c.2.2.2.2.2.2.2.2.2.2.2.2.2.2.2.2.2.2.2.2.2.1,c.2.2.2.2.2.2.2.2.2.2.2.2.2.2.2.2.2.2.2.2.2.2.1,c.2.2.2.2.2.2.2.2.2.2.2.2.2.2.2.2.2.2.2.2.2.2.2.1,c.2.2.2.2.2.2.2.2.2.2.2.2.2.2.2.2.2.2.2.2.2.2.2.2.1,c.2.2.2.2.2.2.2.2.2.2.2.2.2.2.2.2.2.2.2.2.2.2.2.2.2.1,c.2.2.2.2.2.2.2.2.2.2.2.2.2.2.2.2.2.2.2.2.2.2.2.2.2.2.1,c.2.2.2.2.2.2.2.2.2.2.2.2.2.2.2.2.2.2.2.2.2.2.2.2.2.2.2.1,c.2.2.2.2.2.2.2.2.2.2.2.2.2.2.2.2.2.2.2.2.2.2.2.2.2.2.2.2.1,c.2.2.2.2.2.2.2.2.2.2.2.2.2.2.2.2.2.2.2.2.2.2.2.2.2.2.2.2.2.1,c.2.2.2.2.2.2.2.2.2.2.2.2.2.2.2.2.2.2.2.2.2.2.2.2.2.2.2.2.2.2.1,c.2.2.2.2.2.2.2.2.2.2.2.2.2.2.2.2.2.2.2.2.2.2.2.2.2.2.2.2.2.2.2.1,x,c.2.2.2.2.2.2.2.2.2.2.2.2.2.2.2.2.2.2.2.2.2.2.2.2.2.2.2.2.2.2.2.2.2)
noncomputable def Zf.svh (c:Zf)(x:Nat→(FX)):Zf:=(c.1,c.2.1,c.2.2.1,c.2.2.2.1,c.2.2.2.2.1,c.2.2.2.2.2.1,c.2.2.2.2.2.2.1,c.2.2.2.2.2.2.2.1,c.2.2.2.2.2.2.2.2.1,c.2.2.2.2.2.2.2.2.2.1,c.2.2.2.2.2.2.2.2.2.2.1,c.2.2.2.2.2.2.2.2.2.2.2.1,c.2.2.2.2.2.2.2.2.2.2.2.2.1,c.2.2.2.2.2.2.2.2.2.2.2.2.2.1,c.2.2.2.2.2.2.2.2.2.2.2.2.2.2.1,c.2.2.2.2.2.2.2.2.2.2.2.2.2.2.2.1,c.2.2.2.2.2.2.2.2.2.2.2.2.2.2.2.2.1,c.2.2.2.2.2.2.2.2.2.2.2.2.2.2.2.2.2.1,c.2.2.2.2.2.2.2.2.2.2.2.2.2.2.2.2.2.2.1,c.2.2.2.2.2.2.2.2.2.2.2.2.2.2.2.2.2.2.2.1,c.2.2.2.2.2.2.2.2.2.2.2.2.2.2.2.2.2.2.2.2.1,c.2.2.2.2.2.2.2.2.2.2.2.2.2.2.2.2.2.2.2.2.2.1,c.2.2.2.2.2.2.2.2.2.2.2.2.2.2.2.2.2.2.2.2.2.2.1,c.2.2.2.2.2.2.2.2.2.2.2.2.2.2.2.2.2.2.2.2.2.2.2.1,c.2.2.2.2.2.2.2.2.2.2.2.2.2.2.2.2.2.2.2.2.2.2.2.2.1,c.2.2.2.2.2.2.2.2.2.2.2.2.2.2.2.2.2.2.2.2.2.2.2.2.2.1,c.2.2.2.2.2.2.2.2.2.2.2.2.2.2.2.2.2.2.2.2.2.2.2.2.2.2.1,c.2.2.2.2.2.2.2.2.2.2.2.2.2.2.2.2.2.2.2.2.2.2.2.2.2.2.2.1,c.2.2.2.2.2.2.2.2.2.2.2.2.2.2.2.2.2.2.2.2.2.2.2.2.2.2.2.2.1,c.2.2.2.2.2.2.2.2.2.2.2.2.2.2.2.2.2.2.2.2.2.2.2.2.2.2.2.2.2.1,c.2.2.2.2.2.2.2.2.2.2.2.2.2.2.2.2.2.2.2.2.2.2.2.2.2.2.2.2.2.2.1,c.2.2.2.2.2.2.2.2.2.2.2.2.2.2.2.2.2.2.2.2.2.2.2.2.2.2.2.2.2.2.2.1,c.2.2.2.2.2.2.2.2.2.2.2.2.2.2.2.2.2.2.2.2.2.2.2.2.2.2.2.2.2.2.2.2.1,x,c.2.2.2.2.2.2.2.2.2.2.2.2.2.2.2.2.2.2.2.2.2.2.2.2.2.2.2.2.2.2.2.2.2.2)
noncomputable def Zf.svi (c:Zf)(x:Nat→(List Nat)):Zf:=(c.1,c.2.1,c.2.2.1,c.2.2.2.1,c.2.2.2.2.1,c.2.2.2.2.2.1,c.2.2.2.2.2.2.1,c.2.2.2.2.2.2.2.1,c.2.2.2.2.2.2.2.2.1,c.2.2.2.2.2.2.2.2.2.1,c.2.2.2.2.2.2.2.2.2.2.1,c.2.2.2.2.2.2.2.2.2.2.2.1,c.2.2.2.2.2.2.2.2.2.2.2.2.1,c.2.2.2.2.2.2.2.2.2.2.2.2.2.1,c.2.2.2.2.2.2.2.2.2.2.2.2.2.2.1,c.2.2.2.2.2.2.2.2.2.2.2.2.2.2.2.1,c.2.2.2.2.2.2.2.2.2.2.2.2.2.2.2.2.1,c.2.2.2.2.2.2.2.2.2.2.2.2.2.2.2.2.2.1,c.2.2.2.2.2.2.2.2.2.2.2.2.2.2.2.2.2.2.1,c.2.2.2.2.2.2.2.2.2.2.2.2.2.2.2.2.2.2.2.1,c.2.2.2.2.2.2.2.2.2.2.2.2.2.2.2.2.2.2.2.2.1,c.2.2.2.2.2.2.2.2.2.2.2.2.2.2.2.2.2.2.2.2.2.1,c.2.2.2.2.2.2.2.2.2.2.2.2.2.2.2.2.2.2.2.2.2.2.1,c.2.2.2.2.2.2.2.2.2.2.2.2.2.2.2.2.2.2.2.2.2.2.2.1,c.2.2.2.2.2.2.2.2.2.2.2.2.2.2.2.2.2.2.2.2.2.2.2.2.1,c.2.2.2.2.2.2.2.2.2.2.2.2.2.2.2.2.2.2.2.2.2.2.2.2.2.1,c.2.2.2.2.2.2.2.2.2.2.2.2.2.2.2.2.2.2.2.2.2.2.2.2.2.2.1,c.2.2.2.2.2.2.2.2.2.2.2.2.2.2.2.2.2.2.2.2.2.2.2.2.2.2.2.1,c.2.2.2.2.2.2.2.2.2.2.2.2.2.2.2.2.2.2.2.2.2.2.2.2.2.2.2.2.1,c.2.2.2.2.2.2.2.2.2.2.2.2.2.2.2.2.2.2.2.2.2.2.2.2.2.2.2.2.2.1,c.2.2.2.2.2.2.2.2.2.2.2.2.2.2.2.2.2.2.2.2.2.2.2.2.2.2.2.2.2.2.1,c.2.2.2.2.2.2.2.2.2.2.2.2.2.2.2.2.2.2.2.2.2.2.2.2.2.2.2.2.2.2.2.1,c.2.2.2.2.2.2.2.2.2.2.2.2.2.2.2.2.2.2.2.2.2.2.2.2.2.2.2.2.2.2.2.2.1,c.2.2.2.2.2.2.2.2.2.2.2.2.2.2.2.2.2.2.2.2.2.2.2.2.2.2.2.2.2.2.2.2.2.1,x,c.2.2.2.2.2.2.2.2.2.2.2.2.2.2.2.2.2.2.2.2.2.2.2.2.2.2.2.2.2.2.2.2.2.2.2)
noncomputable def Zf.svj (c:Zf)(x:Nat→(Hs)):Zf:=(c.1,c.2.1,c.2.2.1,c.2.2.2.1,c.2.2.2.2.1,c.2.2.2.2.2.1,c.2.2.2.2.2.2.1,c.2.2.2.2.2.2.2.1,c.2.2.2.2.2.2.2.2.1,c.2.2.2.2.2.2.2.2.2.1,c.2.2.2.2.2.2.2.2.2.2.1,c.2.2.2.2.2.2.2.2.2.2.2.1,c.2.2.2.2.2.2.2.2.2.2.2.2.1,c.2.2.2.2.2.2.2.2.2.2.2.2.2.1,c.2.2.2.2.2.2.2.2.2.2.2.2.2.2.1,c.2.2.2.2.2.2.2.2.2.2.2.2.2.2.2.1,c.2.2.2.2.2.2.2.2.2.2.2.2.2.2.2.2.1,c.2.2.2.2.2.2.2.2.2.2.2.2.2.2.2.2.2.1,c.2.2.2.2.2.2.2.2.2.2.2.2.2.2.2.2.2.2.1,c.2.2.2.2.2.2.2.2.2.2.2.2.2.2.2.2.2.2.2.1,c.2.2.2.2.2.2.2.2.2.2.2.2.2.2.2.2.2.2.2.2.1,c.2.2.2.2.2.2.2.2.2.2.2.2.2.2.2.2.2.2.2.2.2.1,c.2.2.2.2.2.2.2.2.2.2.2.2.2.2.2.2.2.2.2.2.2.2.1,c.2.2.2.2.2.2.2.2.2.2.2.2.2.2.2.2.2.2.2.2.2.2.2.1,c.2.2.2.2.2.2.2.2.2.2.2.2.2.2.2.2.2.2.2.2.2.2.2.2.1,c.2.2.2.2.2.2.2.2.2.2.2.2.2.2.2.2.2.2.2.2.2.2.2.2.2.1,c.2.2.2.2.2.2.2.2.2.2.2.2.2.2.2.2.2.2.2.2.2.2.2.2.2.2.1,c.2.2.2.2.2.2.2.2.2.2.2.2.2.2.2.2.2.2.2.2.2.2.2.2.2.2.2.1,c.2.2.2.2.2.2.2.2.2.2.2.2.2.2.2.2.2.2.2.2.2.2.2.2.2.2.2.2.1,c.2.2.2.2.2.2.2.2.2.2.2.2.2.2.2.2.2.2.2.2.2.2.2.2.2.2.2.2.2.1,c.2.2.2.2.2.2.2.2.2.2.2.2.2.2.2.2.2.2.2.2.2.2.2.2.2.2.2.2.2.2.1,c.2.2.2.2.2.2.2.2.2.2.2.2.2.2.2.2.2.2.2.2.2.2.2.2.2.2.2.2.2.2.2.1,c.2.2.2.2.2.2.2.2.2.2.2.2.2.2.2.2.2.2.2.2.2.2.2.2.2.2.2.2.2.2.2.2.1,c.2.2.2.2.2.2.2.2.2.2.2.2.2.2.2.2.2.2.2.2.2.2.2.2.2.2.2.2.2.2.2.2.2.1,c.2.2.2.2.2.2.2.2.2.2.2.2.2.2.2.2.2.2.2.2.2.2.2.2.2.2.2.2.2.2.2.2.2.2.1,x)
theorem Zj:Nonempty Zf:=by
  refine ⟨(?_,?_,?_,?_,?_,?_,?_,?_,?_,?_,?_,?_,?_,?_,?_,?_,?_,?_,?_,?_,?_,?_,?_,?_,?_,?_,?_,?_,?_,?_,?_,?_,?_,?_,?_,?_)⟩ <;> intro _
  all_goals first|exact default|exact fun _=>True|exact fun _ _=>True|exact fun _=>none|exact ({}:PySem.Shared)|exact ({}:PySem.Around)|exact PySem.W.Dat.none|(exact Classical.choice Zjw)|exact fun _=>[]|exact Tgt.v|(constructor <;> exact default)|exact Classical.choice inferInstance
noncomputable def dC:Zf:=Classical.choice Zj
noncomputable def gt {α:Type}(f:Nat→α)(l:List α):Nat→α:=fun i=>l.getD i (f 0)
noncomputable def cS (w:World)(p:Program)(loose:List Str)(mean:ExcName→Option Value)(mg mb m:Str→Option Value)(gd:Option (List Code))(cn:Str)(cs:Scope)(ccd:Value)(cl:List (Str×Addr))(outer:List Env)(A₀:Around)(base h₀:Heap)(s:Shared)(Q E:Value→Shared→Prop):Zf:=dC |>.sc (gt dC.c [w]) |>.sd (gt dC.d [p]) |>.sh (gt dC.h [loose]) |>.sk (gt dC.k [mean]) |>.si (gt dC.i [mg,mb,m]) |>.sl (gt dC.l [gd]) |>.sn (gt dC.n [cn]) |>.sr (gt dC.r [cs]) |>.sp (gt dC.p [ccd]) |>.ss (gt dC.s [cl]) |>.sq (gt dC.q [outer]) |>.se (gt dC.e [A₀]) |>.sj (gt dC.j [base,h₀]) |>.sf (gt dC.f [s]) |>.sg (gt dC.g [Q,E])
noncomputable def cF {α:Type}(f:World→Program→List Str→(ExcName→Option Value)→(Str→Option Value)→(Str→Option Value)→Nat→Nat→Option (List Code)→Str→Scope→Nat→Value→List (Str×Addr)→List Env→Around→Heap→Heap→Nat→(Str→Option Value)→Shared→(Value→Shared→Prop)→(Value→Shared→Prop)→α)(c:Zf):α:=f (c.c 0) (c.d 0) (c.h 0) (c.k 0) (c.i 0) (c.i 1) (c.a 0) (c.a 1) (c.l 0) (c.n 0) (c.r 0) (c.a 2) (c.p 0) (c.s 0) (c.q 0) (c.e 0) (c.j 0) (c.j 1) (c.a 3) (c.i 2) (c.f 0) (c.g 0) (c.g 1)
theorem ZN {P:Zf→Prop}{k:Zf}(e:k=ZM Zj P)(h:P k):∀ c,P c:=by subst e;exact ep1 h
end
local macro_rules
  | `(tactic| exists $f,$a:ident) => `(tactic| generalize $f = $a)
  | `(tactic| exists $f,$a:ident,$b,*) => `(tactic| (generalize $f = $a;exists $f,$b,*))
open PySem PySem.W PySem.Calls PySem.Spec PyProof.Rows PyProof.V
set_option autoImplicit false
local macro_rules | `(tactic| k_allIn) => `(tactic| k_extra "k_allIn")
local macro_rules | `(tactic| ktr_rel) => `(tactic| k_extra "ktr_rel")
local macro_rules | `(tactic| ktr_unf) => `(tactic| k_extra "ktr_unf")
local macro_rules | `(tactic| k_upd) => `(tactic| k_extra "k_upd")
local macro_rules | `(tactic| k_updF) => `(tactic| k_extra "k_updF")
local macro_rules | `(tactic| k_mem) => `(tactic| k_extra "k_mem")
local macro_rules | `(tactic| tb_start) => `(tactic| k_extra "tb_start")
local macro_rules | `(tactic| k_room) => `(tactic| k_extra "k_room")
local macro_rules | `(tactic| kqd_in) => `(tactic| k_extra "kqd_in")
local macro_rules | `(tactic| k_dec) => `(tactic| k_extra "k_dec")
local macro_rules | `(tactic| ktr_room) => `(tactic| k_extra "ktr_room")
local macro_rules | `(tactic| ktr_units) => `(tactic| k_extra "ktr_units")
local macro_rules | `(tactic| k_asm) => `(tactic| k_extra "k_asm")
local macro_rules | `(tactic| k_ownIn) => `(tactic| k_extra "k_ownIn")
local macro_rules | `(tactic| k_all) => `(tactic| k_extra "k_all")
local macro_rules | `(tactic| tb_rel) => `(tactic| k_extra "tb_rel")
local macro_rules | `(tactic| k_lt $h:ident) => `(tactic| (rename News _ _ _ _=>lN';first|(have lD':=Za.grow lN' $h (by ktr_unf);clear $h)|(have lD':=Za.grow2 lN' $h (by assumption) (by ktr_unf))|(have lD':=Za.grow3 lN' $h (by assumption) (by ktr_unf))))
local macro_rules | `(tactic| walk_at $s:str) => `(tactic| k_extra $s)
local macro_rules | `(tactic| decreasing_with $t:tacticSeq) => `(tactic| (k_with_none;(k_with "RST" =>decreasing_with $t);($t)))
theorem Zkn:ZlB PySem.Challenge.rw_ok0033_01 K:=by k_fill;trivial
theorem Zl1:True:=by
  decreasing_with
    (k_with "k_allIn" =>first|(refine' U9 ?xqa;(case xqa=>k_allIn))|(refine' JT ?xqa;(case xqa=>k_allIn))|(refine' W2 ?xqb ?xqc;(case xqb=>k_extra "same");(case xqc=>k_allIn))|with_reducible exact rfl)
    (k_with "same" =>first|(refine' U9 ?xqd;(case xqd=>k_extra "same"))|(refine' JT ?xqd;(case xqd=>k_extra "same"))|with_reducible exact rfl)
    (k_with "ktr_rel" =>first|exact Tk.nil|(refine' Tk.cons ?xqt ?xqu;(case xqt=>k_extra "ext");(case xqu=>ktr_rel))|(refine' Tk.app ?xqt ?xqu;(case xqt=>k_extra "ext");(case xqu=>ktr_rel))|(refine' Tk.one ?xqt;(case xqt=>k_extra "ext"))|k_extra "ext")
    (k_with "ext" =>first|exact Rep.head|exact RepF.head|exact Ext.here|exact ExtA.here|(refine' Rep.tail ?xqe;(case xqe=>k_extra "ext"))|(refine' RepF.tail ?xqe;(case xqe=>k_extra "ext"))|(refine' Rep.app ?xqe;(case xqe=>k_extra "ext"))|(refine' RepF.app ?xqe;(case xqe=>k_extra "ext"))|(refine' Ext.tail ?xqe;(case xqe=>k_extra "ext"))|(refine' ExtA.tail ?xqe;(case xqe=>k_extra "ext"))|(refine' Ext.app ?xqe;(case xqe=>k_extra "ext"))|(refine' ExtA.app ?xqe;(case xqe=>k_extra "ext"))|exact ExtA.all)
    (k_with "ktr_unf" =>first|assumption|(refine Za.of (by assumption) ?_;k_allIn))
    (k_with "k_upd" =>(refine' Rep.upd ?xqr ?xqw;(case xqr=>ktr_rel);(case xqw=>ktr_unf)))
    (k_with "k_updF" =>(refine' RepF.upd ?xqr ?xqw;(case xqr=>ktr_rel);(case xqw=>ktr_unf)))
    (k_with "k_mem" =>first|ktr_member|with_reducible exact List.mem_cons_self|((with_reducible refine' List.mem_append_left _ ?xqm);(case xqm=>k_mem))|((with_reducible refine' List.mem_append_right _ ?xqm);(case xqm=>k_mem))|((with_reducible refine' List.mem_cons_of_mem _ ?xqm);(case xqm=>k_mem))|exact List.mem_cons_self)
    (k_with "call builtin:len" =>(k_here;k_dflt (refine' ZeQ ?k1 ?k2 ?k3 ?_;(case k1=>k_asm);(case k2=>k_mem);(case k3=>assumption);k_whole)))
    (k_with "call builtin:list.append" =>(k_here;k_dflt (refine' append_K ?k1 ?k2 ?k3 ?_ ?z;(case k1=>k_asm);(case k2=>k_asm);(case k3=>k_upd);(case z=>first|exact Zl.fits (by assumption)|exact Nat.le_of_ble_eq_true rfl);k_whole);intro h' F' N'))
    (k_with "newTuple" =>(k_here;k_dflt (refine' YL ?F ?N ?D ?_ ?z;(case F=>k_asm);(case N=>k_asm);(case D=>ktr_unf);(case z=>exact Nat.le_of_ble_eq_true rfl));intro t' h' F' N' D'))
    (k_with "newList" =>(k_here;k_dflt (refine' ZeM ?F ?N ?D ?_ ?z;(case F=>k_asm);(case N=>k_asm);(case D=>ktr_unf);(case z=>exact Nat.le_of_ble_eq_true rfl));intro t' h' F' N' D'))
    (k_with "OM" =>first|((with_reducible refine' om1 ?zo0 ?zoe);(case zo0=>with_reducible assumption);(case zoe=>exact rfl))|((with_reducible refine' om2 ?zo0 ?zoe);(case zo0=>with_reducible assumption);(case zoe=>exact rfl))|((with_reducible refine' om5 ?zo0 ?zo1 ?zoe);(case zo0=>with_reducible assumption);(case zo1=>with_reducible assumption);(case zoe=>exact rfl))|((with_reducible refine' om3 ?zo0 ?zo1 ?zoe);(case zo0=>with_reducible assumption);(case zo1=>with_reducible assumption);(case zoe=>exact rfl))|((with_reducible refine' om6 ?zo0 ?zo1 ?zo2 ?zoe);(case zo0=>with_reducible assumption);(case zo1=>with_reducible assumption);(case zo2=>with_reducible assumption);(case zoe=>exact rfl))|((with_reducible refine' om4 ?zo0 ?zo1 ?zo2 ?zoe);(case zo0=>with_reducible assumption);(case zo1=>with_reducible assumption);(case zo2=>with_reducible assumption);(case zoe=>exact rfl))|((with_reducible refine' om8 ?zo0 ?zoe);(case zo0=>with_reducible assumption);(case zoe=>exact rfl))|((with_reducible refine' om7 ?zo0 ?zoe);(case zo0=>with_reducible assumption);(case zoe=>exact rfl))|((with_reducible refine' ZlG ?zo0 ?zoe);(case zo0=>with_reducible assumption);(case zoe=>exact rfl))|((with_reducible refine' ZlF ?zo0 ?zoe);(case zo0=>with_reducible assumption);(case zoe=>exact rfl))|(with_reducible exact ZlE)|((with_reducible refine' om9 ?zo0);(case zo0=>with_reducible assumption))|(with_reducible exact on1)|((with_reducible refine' on2 ?zo0);(case zo0=>with_reducible assumption))|((with_reducible refine' on3 ?zo0 ?zoe);(case zo0=>with_reducible assumption);(case zoe=>exact rfl))|((with_reducible refine' on4 ?zo0 ?zoe);(case zo0=>with_reducible assumption);(case zoe=>exact rfl))|((with_reducible refine' on5 ?zo0 ?zoe);(case zo0=>with_reducible assumption);(case zoe=>exact rfl))|((with_reducible refine' on6 ?zo0);(case zo0=>with_reducible assumption))|((with_reducible refine' on7 ?zo0 ?zoe);(case zo0=>with_reducible assumption);(case zoe=>exact rfl))|((with_reducible refine' on8 ?zo0 ?zoe);(case zo0=>with_reducible assumption);(case zoe=>exact rfl))|((with_reducible refine' on9 ?zo0);(case zo0=>with_reducible assumption))|((with_reducible refine' oe1 ?zo0 ?zo1 ?zoe);(case zo0=>with_reducible assumption);(case zo1=>with_reducible assumption);(case zoe=>exact rfl))|((with_reducible refine' oe2 ?zo0 ?zo1 ?zoe);(case zo0=>with_reducible assumption);(case zo1=>with_reducible assumption);(case zoe=>exact rfl))|((with_reducible refine' oe3 ?zo0 ?zo1);(case zo0=>with_reducible assumption);(case zo1=>with_reducible assumption))|((with_reducible refine' oe4 ?zo0 ?zo1);(case zo0=>with_reducible assumption);(case zo1=>with_reducible assumption))|((with_reducible refine' oe5 ?zo0 ?zo1 ?zoe);(case zo0=>with_reducible assumption);(case zo1=>with_reducible assumption);(case zoe=>exact rfl))|((with_reducible refine' oe6 ?zo0 ?zo1 ?zoe);(case zo0=>with_reducible assumption);(case zo1=>with_reducible assumption);(case zoe=>exact rfl))|((with_reducible refine' oe7 ?zo0 ?zo1 ?zoe);(case zo0=>with_reducible assumption);(case zo1=>with_reducible assumption);(case zoe=>exact rfl))|((with_reducible refine' oe8 ?zo0 ?zo1);(case zo0=>with_reducible assumption);(case zo1=>with_reducible assumption))|((with_reducible refine' oe9 ?zo0 ?zo1);(case zo0=>with_reducible assumption);(case zo1=>with_reducible assumption))|((with_reducible refine' ZlY ?zo0);(case zo0=>with_reducible assumption))|((with_reducible refine' ZlX ?zo0 ?zo1 ?zoe);(case zo0=>with_reducible assumption);(case zo1=>with_reducible assumption);(case zoe=>exact rfl))|((with_reducible refine' ZlW ?zo0 ?zo1 ?zoe);(case zo0=>with_reducible assumption);(case zo1=>with_reducible assumption);(case zoe=>exact rfl))|((with_reducible refine' ZlV ?zo0 ?zo1);(case zo0=>with_reducible assumption);(case zo1=>with_reducible assumption))|((with_reducible refine' ZlU ?zo0 ?zo1 ?zoe);(case zo0=>with_reducible assumption);(case zo1=>with_reducible assumption);(case zoe=>exact rfl))|((with_reducible refine' ZlT ?zo0 ?zo1 ?zoe);(case zo0=>with_reducible assumption);(case zo1=>with_reducible assumption);(case zoe=>exact rfl))|((with_reducible refine' ZlS ?zo0 ?zo1 ?zoe);(case zo0=>with_reducible assumption);(case zo1=>with_reducible assumption);(case zoe=>exact rfl))|((with_reducible refine' ZlR ?zo0 ?zoe);(case zo0=>with_reducible assumption);(case zoe=>exact rfl))|((with_reducible refine' ZlQ ?zo0 ?zo1);(case zo0=>with_reducible assumption);(case zo1=>with_reducible assumption))|((with_reducible refine' ZlP ?zo0);(case zo0=>with_reducible assumption))|((with_reducible refine' ZlO ?zo0);(case zo0=>with_reducible assumption))|((with_reducible refine' ZlN ?zo0 ?zo1);(case zo0=>with_reducible assumption);(case zo1=>with_reducible assumption))|((with_reducible refine' ZlM ?zo0 ?zoe);(case zo0=>with_reducible assumption);(case zoe=>exact rfl))|((with_reducible refine' ZlL ?zo0 ?zoe);(case zo0=>with_reducible assumption);(case zoe=>exact rfl))|((with_reducible refine' ZlK ?zo0 ?zo1 ?zo2 ?zoe);(case zo0=>with_reducible assumption);(case zo1=>with_reducible assumption);(case zo2=>with_reducible assumption);(case zoe=>exact rfl))|((with_reducible refine' ZlJ ?zo0 ?zo1);(case zo0=>with_reducible assumption);(case zo1=>with_reducible assumption))|((with_reducible refine' ZlI ?zo0);(case zo0=>with_reducible assumption))|((with_reducible refine' ZlH ?zo0);(case zo0=>with_reducible assumption)))
    (k_with "tb_start" =>first|with_reducible assumption|walk_at "OM" | omega|exact rfl)
    (k_with "last subscriptTail" =>(k_here;k_dflt (refine' GF ?N ?m ?h0 ?hf ?hx ?_;(case N=>k_asm);(case m=>k_mem);(case hx=>first|exact rfl|assumption);(case h0=>tb_start);(case hf=>tb_start))))
    (k_with "k_room" =>ktr_room)
    (k_with "exec Raise" =>(k_here;k_dflt (refine' Ww ?hh ?_;(case hh=>first|exact rfl|assumption))))
    (k_with "Raisable51" =>(k_dflt (refine' GP ?F ?X ?N ?m ?h1 ?_;(case F=>k_asm);(case X=>k_asm);(case N=>k_asm);(case m=>k_mem);(case h1=>exact rfl))))
    (k_with "leaving ref" =>(k_here;k_dflt (refine' Zbn ?K ?F ?N ?D ?P ?h1 ?h0 ?_ ?hk;(case K=>k_asm);(case F=>k_asm);(case N=>k_asm);(case D=>ktr_unf);(case P=>ktr_rel);(case h1=>exact rfl);(case h0=>exact rfl);(case hk=>exact rfl));intro h' R' U'))
    (k_with "leaving ref" =>(k_here;k_dflt (refine' WR ?K ?F ?R ?U ?_;(case R=>assumption);(case K=>k_asm);(case F=>k_asm);(case U=>assumption));intro h' R' U'))
    (k_with "kqd_in" =>first|exact DatIn.int _ _|exact DatIn.str _ _|with_reducible assumption|exact DatIn.mono (fun _ hp=>List.mem_append_right _ hp) (by with_reducible assumption)|exact DatIn.tuple (by k_mem) (by kqd_all)|exact DatIn.list (by k_mem) (by kqd_all)|fail "kqd_in: no datum")
    (k_with "exec" =>((with_reducible show wpAny _ _ (exec (Stmt.While _ _ _ _) _) _ _ _);k_dflt (refine whl_start 20 ?_)))
    (k_with "exec While" =>(k_here;k_dflt (refine whl_start 20 ?_)))
    (k_with "exec While Compare" =>(k_here;k_dflt (refine whl_start 20 ?_)))
    (k_with "k_dec" =>first|with_reducible assumption|((try simp only [decide_eq_true_eq,decide_eq_false_iff_not,beq_iff_eq,bne_iff_ne,ne_eq,Bool.not_eq_true,Bool.not_eq_true',Bool.not_eq_false',Bool.or_eq_true,Bool.and_eq_true,and_true,true_and,and_self,and_false,false_and,or_true,true_or,or_false,false_or,not_true_eq_false,not_false_eq_true]);first|done|omega))
    (k_with "ite" =>first|(refine ite_pos (by k_dec) ?_)|(refine ite_neg (by k_dec) ?_))
    (k_with "compareOp Eq ref ref" =>(k_here;k_dflt (refine' Zfc ?N ?a ?b ?u ?_;(case N=>k_asm);(case a=>k_mem);(case b=>k_mem);(case u=>ktr_units))))
    (k_with "call type:set nil nil" =>(k_here;k_dflt (refine' ZeL ?F ?N ?D ?_;(case F=>k_asm);(case N=>k_asm);(case D=>ktr_unf));intro t' h' led' F' N' D'))
    (k_with "subscriptTail" =>(k_here;(with_reducible show wpAny _ _ (subscriptTail _ _ (Value.ref _) (Value.int _ _)) _ _ _);k_dflt (refine' GF ?N ?m ?h0 ?hf ?hx ?_;(case N=>k_asm);(case m=>k_mem);(case hx=>first|exact rfl|assumption);(case h0=>tb_start);(case hf=>tb_start))))
    (k_with "subscriptTail" =>(k_here;(with_reducible show wpAny _ _ (subscriptTail _ _ (Value.ref _) (Value.int _ _)) _ _ _);k_dflt (refine' ZbU ?N ?m ?h0 ?hf ?hj ?hx ?_;(case N=>k_asm);(case m=>k_mem);(case hj=>exact rfl);(case hx=>exact rfl);(case h0=>decide);(case hf=>decide))))
    (k_with "setItem ref int" =>(k_here;(with_reducible show wpAny _ _ (setItem (Value.ref _) (Value.int _ _) _) _ _ _);k_dflt (refine' Zao ?F ?N ?U ?h0 ?hf ?h1 ?_;(case F=>k_asm);(case N=>k_asm);(case U=>k_upd);(case h0=>tb_start);(case hf=>tb_start);(case h1=>tb_start));intro h' F' N'))
    (k_with "call type:list" =>(k_here;(with_reducible show wpAny _ _ (call (Value.type "list") [Value.ref _]) _ _ _);k_dflt (refine' WQ ?hh ?F ?N ?D ?m ?d ?lo ?_;(case hh=>exact rfl);(case F=>k_asm);(case N=>k_asm);(case m=>k_mem);(case d=>assumption);(case lo=>assumption);(case D=>ktr_unf));intro b' c' h' tk' F' N' D'))
    (k_with "exec Raise some none" =>(k_here;k_dflt (refine' Ww ?hh ?_;(case hh=>first|exact rfl|assumption))))
    (k_with "ktr_room" =>((try dsimp only [depth_under_make,depth_under_kw,depth_in1,depth_deeper,ktrTop]);first|(refine' UV ?xqh ?xqk;(case xqh=>with_reducible assumption);(case xqk=>exact rfl))|(refine' Vg ?xqh ?xqk;(case xqh=>with_reducible assumption);(case xqk=>exact rfl))|(refine' UU ?xqh ?xqk;(case xqh=>with_reducible assumption);(case xqk=>exact rfl))|(refine' G5 ?xqh ?xqk;(case xqh=>with_reducible assumption);(case xqk=>exact rfl))|(refine' G6 ?xqh;(case xqh=>with_reducible assumption))|(walk_say "ROOMOLD";omega)))
    (k_with "ktr_units" =>((try dsimp only [units_in1,units_deeper,Around.mark_units,Around.mark,ktrTop]);first|(refine' UV ?xqh ?xqk;(case xqh=>with_reducible assumption);(case xqk=>exact rfl))|(refine' Vg ?xqh ?xqk;(case xqh=>with_reducible assumption);(case xqk=>exact rfl))|(refine' UU ?xqh ?xqk;(case xqh=>with_reducible assumption);(case xqk=>exact rfl))|(refine' G5 ?xqh ?xqk;(case xqh=>with_reducible assumption);(case xqk=>exact rfl))|(refine' G6 ?xqh;(case xqh=>with_reducible assumption))|(walk_say "UNITSOLD";omega)))
    (k_with "gS" =>(exists Zf.c _ _,w);(exists Zf.d _ _,p);(exists Zf.h _ _,loose);(exists Zf.k _ _,mean);(exists Zf.i _ _,mg,mb,m);(exists Zf.a _ _,dp,un,a,L);(exists Zf.l _ _,gd);(exists Zf.n _ _,cn);(exists Zf.r _ _,cs);(exists Zf.p _ _,ccd);(exists Zf.s _ _,cl);(exists Zf.q _ _,outer);(exists Zf.e _ _,A₀);(exists Zf.j _ _,base,h₀);(exists Zf.f _ _,s);(exists Zf.g _ _,Q,E))
    (k_with "cS" =>clear w p loose mean mg mb dp un gd cn cs a ccd cl outer A₀ base h₀ L m s Q E)
    (k_with "z5" =>(case zB=>k_asm);(case zF=>k_asm);(case zX=>k_asm);(case zT=>k_asm);(case zN=>k_asm))
    (k_with "z6" =>(case zB=>k_asm);(case zF=>k_asm);(case zX=>k_asm);(case zT=>k_asm);(case zhk=>first|exact rfl|assumption);(case zN=>k_asm))
    (k_with "G slimN" =>(k_with "execs cons" =>(refine wpAny_execs_cons ?_;k_fold));(k_with "setAttr ref" =>(k_here;k_dflt (refine' set_dict ?zk1 ?zk2 ?zk3 ?zk4 ?zk5 ?zk6 ?zk7 ?zk8 ?zk9 ?zk10 ?zk11 ?zk12 ?zk13 ?_;(case zk1=>k_asm);(case zk2=>k_asm);(case zk3=>k_asm);(case zk4=>k_inst);(case zk5=>exact rfl);(case zk6=>k_is);(case zk7=>k_is);(case zk8=>k_is);(case zk9=>k_is);(case zk10=>k_get);(case zk11=>k_put);(case zk12=>k_upd);(case zk13=>exact Nat.le_of_ble_eq_true rfl);k_whole;intro h' F' N';(try k_sweep));(try dsimp only at N'))))
    (k_with "G dct" =>(k_with "k_all" =>first|with_reducible assumption|exact rfl);(k_with "subscriptTail" =>(k_here;(with_reducible show wpAny _ _ (subscriptTail _ _ (Value.ref _) (Value.int _ _)) _ _ _);k_dflt (refine' kda_item (knd:=intKind _ _) ?N ?m ?d (intKind_is _ _ _ _) ?x ?_;(case N=>k_asm);(case m=>k_mem);(case d=>with_reducible assumption);(case x=>with_reducible assumption))));(k_with "compareOp In" =>(k_here;(with_reducible show wpAny _ _ (compareOp CmpOp.In (Value.int _ _) (Value.ref _)) _ _ _);k_dflt (refine' ZgB ?N ?m ?d ?lo ?x ?_;(case N=>k_asm);(case m=>k_mem);(case d=>with_reducible assumption);(case lo=>with_reducible assumption);(case x=>with_reducible assumption))));(k_with "setItem ref int" =>(k_here;(with_reducible show wpAny _ _ (setItem (Value.ref _) (Value.int _ _) _) _ _ _);k_dflt (refine' kda_set (knd:=intKind _ _) ?F ?N ?U ?d (intKind_is _ _ _ _) ?z ?_;(case F=>k_asm);(case N=>k_asm);(case U=>k_updF);(case d=>with_reducible assumption);(case z=>first|with_reducible assumption|k_whole));intro h' o' F' N' hd';(try dsimp only at N')));(k_with "getMethod ref" =>(k_here;k_dflt (refine' kdg_method (knd:=intKind _ _) ?N ?m ?d ?_;(case N=>k_asm);(case m=>k_mem);(case d=>with_reducible assumption))));(k_with "call builtin:dict.get" =>(k_here;(with_reducible show wpAny _ _ (call _ [Value.ref _,Value.int _ _,_]) _ _ _);k_dflt (refine' Ze5 ?N ?m ?d ?lo ?x ?_;(case N=>k_asm);(case m=>k_mem);(case d=>with_reducible assumption);(case lo=>with_reducible assumption);(case x=>with_reducible assumption));(try dsimp only [Option.getD])));(k_with "getItem ref int" =>(k_here;k_dflt (refine' JK ?N ?m ?h0 ?hf ?hj ?hx ?_;(case N=>k_asm);(case m=>k_mem);(case hj=>exact rfl);(case hx=>exact rfl);(case h0=>tb_start);(case hf=>tb_start))));(k_with "setItem ref int" =>(k_here;(with_reducible show wpAny _ _ (setItem (Value.ref _) (Value.int _ _) _) _ _ _);k_dflt (refine' GK ?F ?N ?U ?h0 ?hf ?hj ?hl ?hx ?_;(case F=>k_asm);(case N=>k_asm);(case U=>k_upd);(case h0=>tb_start);(case hf=>tb_start);(case hj=>exact rfl);(case hl=>exact Nat.le_of_ble_eq_true rfl);(case hx=>exact rfl));intro h' F' N')))
    (k_with "G loop" =>(k_with "exec For Name Name cons nil" =>(k_here;(rename Fr _ _ _ _=>lF');(with_unfolding_all refine' For_turns lF' ?_;k_whole)));(k_with "exec For Name Call cons nil" =>(k_here;(rename Fr _ _ _ _=>lF');(with_unfolding_all refine' For_turns lF' ?_;k_whole)));(k_with "pyIter ref" =>(k_here;(with_reducible show wpAny _ _ (pyIter (Value.ref _)) (fun it s₂=>TurnsAt _ _ _ _ _ _ _ _ _ it s₂) _ _);first|(with_unfolding_all refine' iter_tupTurns ?hh ?F ?N ?m ?c ?d ?_;(case hh=>with_unfolding_all rfl);(case F=>k_asm);(case N=>k_asm);(case m=>k_mem);(case c=>exact rfl);(case d=>exact rfl);intro I' l1;(have lI':=VP l1 (by ktr_unf));clear l1;dsimp only [List.map])|(with_unfolding_all refine' iter_listTurns ?hh ?F ?N ?m ?c ?d ?_;(case hh=>with_unfolding_all rfl);(case F=>k_asm);(case N=>k_asm);(case m=>k_mem);(case c=>exact rfl);(case d=>exact rfl);intro I' l1;(have lI':=VP l1 (by ktr_unf));clear l1;dsimp only [List.map])));(k_with "ItemsRest" =>first|((with_unfolding_all refine' ItemsRest.val ?_);intro h' tk' F';(refine AllObj.cons (fun o' hc'=>?_));(refine AllObj.nil (fun N'=>?_));dsimp only [List.cons_append,List.nil_append] at N';clear hc')|((with_unfolding_all refine' ItemsRest.zero ?_);intro h' tk' F' N';have lD':=Y0 N' (by assumption)));(k_with "UnrEndW" =>(k_dflt (refine' J3 ?uF ?uN ?uD ?uP ?_;(case uF=>k_asm);(case uN=>k_asm);(case uD=>ktr_unf);(case uP=>ktr_rel));intro lI';(refine ⟨And.intro (by k_mem) trivial,?_⟩);(try dsimp only))))
    (k_with "G der" =>(k_with "k_asm" =>((with_reducible show Der _ _ _ _);first|with_reducible assumption|exact Der.con (by k_mem) (by tb_start) (by tb_start)|exact Der.var (by k_mem) (by k_mem) (by with_reducible assumption) (by with_reducible assumption)|exact Der.bnd (by k_mem) (by k_mem) (by k_mem) (by with_reducible assumption) (by with_reducible assumption) (by tb_start) (by tb_start)|exact Der.mono (by with_reducible assumption) (fun q hq=>by k_ownIn)));(k_with "k_ownIn" =>first|with_reducible assumption|((with_reducible refine' List.mem_append_left _ ?xqo);(case xqo=>k_ownIn))|((with_reducible refine' List.mem_append_right _ ?xqo);(case xqo=>k_ownIn))|((with_reducible refine' List.mem_cons_of_mem _ ?xqo);(case xqo=>k_ownIn))))
    (k_with "G LawC" =>(k_with "exec Assign cons ListComp" =>(k_here;(with_reducible show wpAny _ _ (exec (Stmt.Assign _ (Expr.ListComp _ [⟨_,_,[],_⟩] _ _) _) _) _ _ _);k_dflt (refine' LCg.Assign_ListComp_U ?F ?hLe ?hsw ?hclos ?hcell ?hkind ?hnames ?hx ?hy ?hp ?_;(case F=>k_asm);(case hLe=>rfl);(case hsw=>with_unfolding_all rfl);(case hclos=>with_unfolding_all rfl);(case hcell=>decide);(case hkind=>rfl);(case hnames=>decide);(case hx=>rfl);(case hy=>rfl);(case hp=>rfl))));(k_with "FinA" =>((unfold LCg.FinA);intro D' h' tk' F' N' o1';(have lD':=Ja N' o1' (by ktr_unf));clear o1';(try dsimp only)));(k_with "compareOp Eq ref ref" =>(k_here;k_dflt (refine' ZgO ?N ?a ?b ?u ?k ?_;(case N=>k_asm);(case a=>exact DatIn.list (by k_mem) (by kqd_all));(case b=>exact DatIn.list (by k_mem) (by kqd_all));(case k=>first|exact rfl|exact kq2 (by with_reducible assumption)|exact kq3 (by with_reducible assumption));(case u=>ktr_units))));(k_with "kqd_in" =>first|exact DatIn.int _ _|exact DatIn.str _ _|with_reducible assumption|(refine' DatIn.mono ?xqs ?xqv;(case xqv=>with_reducible assumption);(case xqs=>intro q hq;k_ownIn))|exact DatIn.tuple (by k_mem) (by kqd_all)|exact DatIn.list (by k_mem) (by kqd_all)|fail "kqd_in: no datum");(k_with "subscriptTail" =>(k_here;(with_reducible show wpAny _ _ (subscriptTail _ _ (Value.ref _) (Value.str _ _)) _ _ _);k_dflt (refine' kda_item (knd:=strKind _ _) ?N ?m ?d (strKind_is _ _ _ _) ?x ?_;(case N=>k_asm);(case m=>k_mem);(case d=>with_reducible assumption);(case x=>with_reducible assumption))));(k_with "subscriptTail" =>(k_here;(with_reducible show wpAny _ _ (subscriptTail _ _ (Value.ref _) (Value.int _ _)) _ _ _);k_dflt (refine' ZA ?N ?m ?h0 ?hf ?hj ?hx ?_;(case N=>k_asm);(case m=>k_mem);(case hj=>exact rfl);(case hx=>exact rfl);(case h0=>tb_start);(case hf=>tb_start)))))
    (k_with "G AskC" =>(k_with "eval ListComp" =>(k_here;(with_reducible show wpAny _ _ (eval (Expr.ListComp _ [⟨_,_,[],_⟩] _ _) _) _ _ _);k_dflt (refine' LCg.ListComp_U ?F ?h1 ?h2 ?h3 ?h4 ?h5 ?h6;(case F=>k_asm);(case h1=>with_unfolding_all rfl);(case h2=>decide);(case h3=>rfl);(case h4=>decide);(case h5=>rfl))));(k_with "eval ListComp" =>(k_here;(with_reducible show wpAny _ _ (eval (Expr.ListComp _ [⟨_,_,[_],_⟩] _ _) _) _ _ _);k_dflt (refine' LCt.ListComp_T ?F ?h1 ?h2 ?h3 ?h4 ?h5 ?h6;(case F=>k_asm);(case h1=>with_unfolding_all rfl);(case h2=>decide);(case h3=>rfl);(case h4=>decide);(case h5=>rfl))));(k_with "CompSrc" =>(k_here;k_dflt (refine' LCg.CompSrc.ledger ?hh ?F ?N ?m ?z ?_;(case hh=>exact rfl);(case F=>k_asm);(case N=>k_asm);(case m=>k_mem);(case z=>exact Nat.le_of_ble_eq_true rfl));intro g';lcg_lit));(k_with "CompRest" =>(with_unfolding_all first|(refine LCg.CompRest.succ ?_;intro v' I' oI' C' oC' D' m' h' tk' E' hv' hC' hx' F' N' off' ne';(first|lcg_open hv'|(obtain ⟨t9',hv9'⟩:=hv';subst hv9'));(have lD':=VO N' off' ne' (by ktr_unf));clear off' ne')|refine LCg.CompRest.zero ?_));(k_with "CompEnd" =>((with_reducible show LCg.CompEnd _ _ _ _ _ _ _ _ _ _ _ _ _ _);k_dflt (refine' Wg ?F ?N ?P ?D ?S ?_;(case F=>k_asm);(case N=>k_asm);(case P=>ktr_rel);(case D=>ktr_unf);(case S=>first|exact True.intro|exact Or.inl (by assumption)|exact Or.inr ⟨_,by k_mem,rfl,_,rfl⟩));intro lD'));(k_with "FinE" =>((unfold LCg.FinE);intro D' h' tk' F' N' o1';(have lD':=Ja N' o1' (by ktr_unf));clear o1';(try dsimp only)));(k_with "CompSrcT" =>(k_here;k_dflt (refine' LCt.CompSrcT.range ?hh ?F ?N ?m ?a ?b ?z ?_;(case hh=>exact rfl);(case F=>k_asm);(case N=>k_asm);(case m=>assumption);(case a=>first|decide|rfl);(case b=>first|rfl|decide);(case z=>exact Nat.le_of_ble_eq_true rfl));intro g';lct_lit));(k_with "CompRestT" =>(with_unfolding_all first|(refine LCt.CompRestT.succ ?_;intro v' I' oI' C' oC' D' m' h' tk' E' hv' hC' hx' F' N' off' ne';(first|lcg_open hv'|(obtain ⟨t9',hv9'⟩:=hv';subst hv9'));(have lD':=VO N' off' ne' (by ktr_unf));clear off' ne')|refine LCt.CompRestT.zero ?_));(k_with "exec Assign cons ListComp" =>(k_here;k_dflt (refine wpAny_Assign_Name ?_ (by with_unfolding_all rfl)))))
    (k_with "G try" =>(k_with "exec Try" =>(k_here;(with_reducible show wpAny _ _ (exec (Stmt.Try _ (_::_) _ [] _) _) _ _ _);k_dflt (refine wpAny_Try_except ?_)));(k_with "noteFrame ref" =>(k_here;k_dflt (refine' Zgu ?K ?R ?U ?_;(case R=>assumption);(case K=>k_asm);(case U=>assumption));intro h' R' U')))
    (k_with "G slim" =>(k_with "execs cons" =>(refine wpAny_execs_cons ?_;(try refine ZaI (fun tk=>?_));k_fold));(k_with "setAttr ref" =>(k_here;k_dflt (refine' set_dict ?zk1 ?zk2 ?zk3 ?zk4 ?zk5 ?zk6 ?zk7 ?zk8 ?zk9 ?zk10 ?zk11 ?zk12 ?zk13 ?_;(case zk1=>k_asm);(case zk2=>k_asm);(case zk3=>k_asm);(case zk4=>k_inst);(case zk5=>exact rfl);(case zk6=>k_is);(case zk7=>k_is);(case zk8=>k_is);(case zk9=>k_is);(case zk10=>k_get);(case zk11=>k_put);(case zk12=>k_upd);(case zk13=>exact Nat.le_of_ble_eq_true rfl);k_whole;intro h' F' N';(try k_sweep));(try dsimp only at N'))))
    (k_with "G slE" =>(k_with "execs cons" =>(refine wpAny_execs_cons ?_;(try refine ZaI (fun tk=>?_));k_fold)))
  trivial
theorem rw1:True:=by
  walk_at "RST"
  walk_at "G slE"
  trivial
section
theorem rw2:True:=by
  k_with "call builtin:dict.get" =>(k_here;k_dflt (refine call_get2_tab_int (knd:=strKind _ _) (enc:=PyData.str) (sk :=.str) same_str (strKind_is _ _ _ _) (by k_tabat) (by assumption) ?_);intro tget)
  k_with "setItem ref str" =>(k_here;k_dflt (refine' setItem_K PyProof.V.same_str (strKind_is _ _ _ _) ?v ?F ?N ?U ?d ?f ?_ ?z;(case F=>k_asm);(case N=>k_asm);(case U=>k_updF);(case d=>k_asm);(case f=>k_asm);(case z=>assumption);(case v=>k_flat));intro h' o' F' N' hd' hf';(try dsimp only at N'))
  trivial
noncomputable def Ug {w:World}{p:Program}{loose:List Str}{mean:ExcName→Option Value}{mg mb:Str→Option Value}{dp un:Nat}{gd:Option (List Code)}{cn:Str}{cs:Scope}{a:Addr}{ccd:Value}{cl:List (Str×Addr)}{outer:List Env}{A₀:Around}{base h₀:Heap}{L:Addr}{m:Str→Option Value}{s:Shared}{Q E:Value→Shared→Prop}{sym sd tl an fl fn:Nat}{its:Array Value}{e1 n:Nat}{oan:Obj}{jy:Hs}{tx:Tok}{T':List (Addr×Obj)}{x:Str}{TX:List Str}{kvs:List (Str×Value)}:Prop:=∀ (B:Below A₀ base outer h₀)(F:Fr h₀ L s.heap m)(X:(K w.params).In h₀)(N:News h₀ L s.heap ((an,oan)::(tl,W.listOf its e1)::T'))(T:Top p loose mean mg mb h₀)(hk:cs.kind = .function)(D:Za ((an,oan)::(tl,W.listOf its e1)::T'))(hm1:(sym,instObj 154 sd)∈T')(hm2:(sd,Zq jy tl an fl fn n)∈T')(hd:oan.IsDictOf (strKind PR w) kvs)(hf:FlatPairs PyData.str kvs (ZD PyData.str 0 TX))(lo:(an==sysModules)=false)(hsh:Shaped .str .int (ZD PyData.str 0 TX))(hsz:(ZD PyData.str 0 TX).length≤sizeLine)(hit:Zl its)(hdp:dp+5<recursionLimit)(hun:un+40<cLine)(ret1:∀ (t:Tok)(h':Heap)(tk':Nat),0≤PyProof.Rows.intAt (PyData.str x) (-1) (ZD PyData.str 0 TX)→Fr h₀ L h' m→News h₀ L h' ((an,oan)::(tl,W.listOf its e1)::T')→Q (.int (PyProof.Rows.intAt (PyData.str x) (-1) (ZD PyData.str 0 TX)) t) {s with heap:=h',toks:=tk'})(ret2:∀ (t u:Tok)(h':Heap)(tk':Nat)(o':Obj),¬ 0≤PyProof.Rows.intAt (PyData.str x) (-1) (ZD PyData.str 0 TX)→Fr h₀ L h' m→News h₀ L h' ((an,o')::(tl,W.listOf (its.push (.str x tx)) (e1+1))::T')→o'.IsDictOf (strKind PR w) (stored kvs x (.int its.size u))→FlatPairs PyData.str (stored kvs x (.int its.size u)) (putD (PyData.str x) (PyData.int its.size) (ZD PyData.str 0 TX))→Q (.int its.size t) {s with heap:=h',toks:=tk'}),
   wpAny (model PR w) (ktrTop dp un gd cn cs L a ccd cl outer) (call (.ref 88) [.ref sym,.str x tx]) Q E s
noncomputable def Yz (c:Zf):Prop:=@cF _ (@Ug) c (c.a 4) (c.a 5) (c.a 6) (c.a 7) (c.a 8) (c.a 9) (c.vc 0) (c.a 10) (c.a 11) (c.v 0) (c.vj 0) (c.o 0) (c.b 0) (c.n 1) (c.h 1) (c.va 0)
noncomputable def Uf:Zf:=ZM Zj Yz
theorem Ws:Yz Uf:=by
  delta Yz cF
  k_extra "gS"
  exists Zf.h _ _,TX
  exists Zf.a _ _,sym,sd,tl,an,fl,fn,e1,n
  exists Zf.n _ _,x
  exists Zf.vc _ _,its
  exists Zf.v _ _,oan
  exists Zf.vj _ _,jy
  exists Zf.o _ _,tx
  exists Zf.b _ _,T'
  exists Zf.va _ _,kvs
  intro B F X N T hk D hm1 hm2 hd hf lo hsh hsz hit hdp hun ret1 ret2
  delta Zq at *
  refine wpAny_call ?_
  k_dflt cell_enter
  k_steps
  · exact ret1 _ _ _ (by assumption) (by k_asm) (by k_asm)
  · exact ret2 _ _ _ _ _ (by assumption) (by k_asm) (by k_asm) (by assumption) (by assumption)
theorem Zbz {w p loose mean mg mb dp un gd cn cs a ccd cl outer A₀ base h₀ L m s Q E sym sd tl an fl fn its e1 n oan jy tx T' x TX kvs}:@Ug w p loose mean mg mb dp un gd cn cs a ccd cl outer A₀ base h₀ L m s Q E sym sd tl an fl fn its e1 n oan jy tx T' x TX kvs:=ZN (k:=Uf) rfl Ws (cS w p loose mean mg mb m gd cn cs ccd cl outer A₀ base h₀ s Q E |>.sh (gt dC.h [loose,TX]) |>.sa (gt dC.a [dp,un,a,L,sym,sd,tl,an,fl,fn,e1,n]) |>.sn (gt dC.n [cn,x]) |>.svc (gt dC.vc [its]) |>.sv (gt dC.v [oan]) |>.svj (gt dC.vj [jy]) |>.so (gt dC.o [tx]) |>.sb (gt dC.b [T']) |>.sva (gt dC.va [kvs]))
noncomputable def Wu {w:World}{p:Program}{loose:List Str}{mean:ExcName→Option Value}{mg mb:Str→Option Value}{dp un:Nat}{gd:Option (List Code)}{cn:Str}{cs:Scope}{a:Addr}{ccd:Value}{cl:List (Str×Addr)}{outer:List Env}{A₀:Around}{base h₀:Heap}{L:Addr}{m:Str→Option Value}{s:Shared}{Q E:Value→Shared→Prop}{sym sd tl an fl fn n:Nat}{jy:Hs}{tx:Tok}{x:Str}{TX:List Str}{FN:List (Int×Int)}{S news rest:List (Addr×Obj)}:Prop:=∀ (B:Below A₀ base outer h₀)(F:Fr h₀ L s.heap m)(X:(K w.params).In h₀)(N:News h₀ L s.heap news)(T:Top p loose mean mg mb h₀)(hk:cs.kind = .function)(P:Tk S news rest)(hS:Zh w tl an fl fn TX FN S)(D:Za news)(hm1:(sym,instObj 154 sd)∈rest)(hm2:(sd,Zq jy tl an fl fn n)∈rest)(hb:TX.length<50000)(hdp:dp+5<recursionLimit)(hun:un+40<cLine)(ret:∀ (i:Nat)(t:Tok)(TX':List Str)(S':List (Addr×Obj))(h':Heap)(tk':Nat),TX'[i]? = some x→TX<+:TX'→TX'.length≤TX.length+1→Zh w tl an fl fn TX' FN S'→Fr h₀ L h' m→News h₀ L h' (S'++rest)→Za (S'++rest)→Q (.int i t) {s with heap:=h',toks:=tk'}),
   wpAny (model PR w) (ktrTop dp un gd cn cs L a ccd cl outer) (call (.ref 88) [.ref sym,.str x tx]) Q E s
noncomputable def Jk (c:Zf):Prop:=@cF _ (@Wu) c (c.a 4) (c.a 5) (c.a 6) (c.a 7) (c.a 8) (c.a 9) (c.a 10) (c.vj 0) (c.o 0) (c.n 1) (c.h 1) (c.t 0) (c.b 0) (c.b 1) (c.b 2)
noncomputable def Wt:Zf:=ZM Zj Jk
theorem Zef:Jk Wt:=by
  delta Jk cF
  k_extra "gS"
  exists Zf.h _ _,TX
  exists Zf.a _ _,sym,sd,tl,an,fl,fn,n
  exists Zf.n _ _,x
  exists Zf.vj _ _,jy
  exists Zf.o _ _,tx
  exists Zf.t _ _,FN
  exists Zf.b _ _,S,news,rest
  intro B F X N T hk P hS D hm1 hm2 hb hdp hun ret
  delta Zq at *
  have N₁:=Ze N P.perm
  have D₁:=D.perm P.perm
  obtain ⟨its,fits,e1,e2,oan,ofn,kvs,xs,ks,rfl,⟨i1,i2,i3⟩,i4,i5,i6,i7,i8,i9⟩:=hS
  have hsize:Zl its:=by unfold Zl;tb_start
  refine Zbz B F X N₁ T hk D₁ (List.mem_append_right _ hm1) (List.mem_append_right _ hm2) i1 i2 i3 (V2 (fun _=>rfl) TX 0) (by rw [V4,sizeLine_eq];tb_start) hsize hdp hun ?_ ?_
  · intro t h' tk' h0 F' N'
    rcases Va same_str x TX with ⟨i,q1,q2⟩|⟨q1,q2⟩
    · rw [q2]
      exact ret i t TX _ h' tk' q1 (List.prefix_refl _) (by tb_start) ⟨its,fits,e1,e2,oan,ofn,kvs,xs,ks,rfl,⟨i1,i2,i3⟩,i4,i5,i6,i7,i8,i9⟩ F' N' D₁
    · rw [q2] at h0;exact absurd h0 (by decide)
  · intro t u h' tk' o' h0 F' N' hd' hf'
    rcases Va same_str x TX with ⟨i,q1,q2⟩|⟨q1,q2⟩
    · rw [q2] at h0;exact absurd (by tb_start) h0
    · have e:=GC same_str x TX 0 q1
      rw [Nat.zero_add] at e
      rw [i5] at hf' hd' ⊢
      rw [e] at hf'
      refine ret TX.length t (TX++[x]) _ h' tk' (by simp) (List.prefix_append _ _) (by simp) ⟨_,fits,e1+1,e2,o',ofn,_,xs,ks,rfl,⟨hd',hf',i3⟩,?_,?_,?_,i7,i8,i9⟩ F' N' (D₁.of rfl)
      · rw [List.nodup_append]
        refine ⟨i4,by simp,?_⟩
        intro a ha b hb e
        rw [List.mem_singleton.mp hb] at e
        exact q1 (e ▸ ha)
      · simp [i5]
      · intro i y hy
        by_cases hi:i<TX.length
        · rw [List.getElem?_append_left hi] at hy
          obtain ⟨t',ht⟩:=i6 i y hy
          refine ⟨t',?_⟩
          rw [Array.getElem?_push_lt (by tb_start)]
          rw [Array.getElem?_eq_getElem (by tb_start)] at ht
          exact ht
        · have hi':i=TX.length:=by
            have:=(List.getElem?_eq_some_iff.mp hy).1
            simp at this
            tb_start
          subst hi'
          simp at hy
          subst hy
          exact ⟨tx,by rw [← i5];simp⟩
theorem ZW {w p loose mean mg mb dp un gd cn cs a ccd cl outer A₀ base h₀ L m s Q E sym sd tl an fl fn n jy tx x TX FN S news rest}:@Wu w p loose mean mg mb dp un gd cn cs a ccd cl outer A₀ base h₀ L m s Q E sym sd tl an fl fn n jy tx x TX FN S news rest:=ZN (k:=Wt) rfl Zef (cS w p loose mean mg mb m gd cn cs ccd cl outer A₀ base h₀ s Q E |>.sh (gt dC.h [loose,TX]) |>.sa (gt dC.a [dp,un,a,L,sym,sd,tl,an,fl,fn,n]) |>.sn (gt dC.n [cn,x]) |>.svj (gt dC.vj [jy]) |>.so (gt dC.o [tx]) |>.st (gt dC.t [FN]) |>.sb (gt dC.b [S,news,rest]))
end
theorem rw3:True:=by
  walk_at "RST"
  walk_at "G slE"
  trivial
section
theorem rw4:True:=by
  k_with "k_ownIn" =>first|assumption|exact List.mem_append_left _ (by assumption)|exact List.mem_append_right _ (by assumption)|(refine List.Mem.tail _ ?_;k_ownIn)
  k_with "tb_rel" =>(refine' J0.tab ?xqlo ?xqhO ?xqhm ?xqhK ?xqhf;(case xqlo=>assumption);(case xqhO=>assumption);(case xqhm=>k_mem);(case xqhK=>(refine VT.mono (by assumption) ?_;(intro q hq;k_ownIn)));(case xqhf=>assumption))
  k_with "getMethod ref" =>(k_here;k_dflt (refine' getMethod_tupTab_get (knd:=intKind _ _) (enc:=PyData.int) ?N ?T ?_;(case N=>k_asm);(case T=>tb_rel)))
  k_with "call builtin:dict.get" =>(k_here;k_dflt (refine' ZgK ?hu ?N ?T ?hka ?_;(case N=>k_asm);(case T=>tb_rel);(case hka=>k_mem);(case hu=>ktr_units));intro tget tkget)
  k_with "setItem ref ref" =>(k_here;k_dflt (refine' ZgJ ?hu ?F ?N ?U ?hO ?hK ?hka ?z ?_;(case F=>k_asm);(case N=>k_asm);(case U=>k_updF);(case hO=>assumption);(case hK=>(refine VT.mono (by assumption) ?_;(intro q hq;k_ownIn)));(case hka=>k_mem);(case z=>assumption);(case hu=>ktr_units));intro h' o' tks F' N' hO';(try dsimp only at N'))
  trivial
section
variable {w:World}{p:Program}{loose:List Str}{mean:ExcName→Option Value}{mg mb:Str→Option Value}
   {dp un:Nat}{gd:Option (List Code)}{cn:Str}{cs:Scope}{a:Addr}{ccd:Value}{cl:List (Str×Addr)}{outer:List Env}{A₀:Around}{base h₀:Heap}{L:Addr}{m:Str→Option Value}{s:Shared}{Q E:Value→Shared→Prop}
   (B:Below A₀ base outer h₀)(F:Fr h₀ L s.heap m)(X:(K w.params).In h₀)(T:Top p loose mean mg mb h₀)(hk:cs.kind = .function)
include B F X T hk
omit B F X T hk
noncomputable def Yv {sym sd tl an fl fn:Nat}{fits:Array Value}{e1 n:Nat}{ofn:Obj}{jy:Hs}{tx ty:Tok}{T':List (Addr×Obj)}{x y:Int}{FN:List (Int×Int)}{xs:FX}:Prop:=∀ (B:Below A₀ base outer h₀)(F:Fr h₀ L s.heap m)(X:(K w.params).In h₀)(T:Top p loose mean mg mb h₀)(hk:cs.kind = .function)(N:News h₀ L s.heap ((fl,W.listOf fits e1)::(fn,ofn)::T'))(D:Za ((fl,W.listOf fits e1)::(fn,ofn)::T'))(hm1:(sym,instObj 154 sd)∈T')(hm2:(sd,Zq jy tl an fl fn n)∈T')(hO:J0 w ofn xs)(hK:VT w xs T')(hf:FlatPairs (encTuple PyData.int) (kvsOf xs) (ZD YN 0 FN))(lo:(fn==sysModules)=false)(hsz:xs.length≤sizeLine)(hit:Zl fits)(hdp:dp+5<recursionLimit)(hun:un+40<cLine)(ret1:∀ (u:Tok)(t:Nat)(o:Obj)(h':Heap)(tk':Nat),0≤PyProof.Rows.intAt (YN (x,y)) (-1) (ZD YN 0 FN)→Fr h₀ L h' m→News h₀ L h' ((t,o)::(fl,W.listOf fits e1)::(fn,ofn)::T')→Q (.int (PyProof.Rows.intAt (YN (x,y)) (-1) (ZD YN 0 FN)) u) {s with heap:=h',toks:=tk'})(ret2:∀ (u v:Tok)(t:Nat)(h':Heap)(tk':Nat)(o':Obj),¬ 0≤PyProof.Rows.intAt (YN (x,y)) (-1) (ZD YN 0 FN)→Fr h₀ L h' m→News h₀ L h' ((t,{cls :=.type "tuple",data :=.seq [Value.int x tx,Value.int y ty].toArray})::(fl,W.listOf (fits.push (.ref t)) (e1+1))::(fn,o')::T')→Za ((t,({cls :=.type "tuple",data :=.seq [Value.int x tx,Value.int y ty].toArray}:Obj))::(fl,W.listOf fits e1)::(fn,ofn)::T')→J0 w o' (storedH xs [x,y] t (.int fits.size v))→Q (.int fits.size u) {s with heap:=h',toks:=tk'}),
   wpAny (model PR w) (ktrTop dp un gd cn cs L a ccd cl outer) (call (.ref 102) [.ref sym,.int x tx,.int y ty]) Q E s
noncomputable def ZU (c:Zf):Prop:=@cF _ (@Yv) c (c.a 4) (c.a 5) (c.a 6) (c.a 7) (c.a 8) (c.a 9) (c.vc 0) (c.a 10) (c.a 11) (c.v 0) (c.vj 0) (c.o 0) (c.o 1) (c.b 0) (c.m 0) (c.m 1) (c.t 0) (c.vh 0)
noncomputable def Yu:Zf:=ZM Zj ZU
theorem U1:ZU Yu:=by
  delta ZU cF
  k_extra "gS"
  exists Zf.a _ _,sym,sd,tl,an,fl,fn,e1,n
  exists Zf.vc _ _,fits
  exists Zf.v _ _,ofn
  exists Zf.vj _ _,jy
  exists Zf.o _ _,tx,ty
  exists Zf.b _ _,T'
  exists Zf.m _ _,x,y
  exists Zf.t _ _,FN
  exists Zf.vh _ _,xs
  intro B F X T hk N D hm1 hm2 hO hK hf lo hsz hit hdp hun ret1 ret2
  delta Zq at *
  refine wpAny_call ?_
  k_dflt cell_enter
  k_steps
  · exact ret1 _ _ _ _ _ (by assumption) (by k_asm) (by k_asm)
  · exact ret2 _ _ _ _ _ _ (by assumption) (by k_asm) (by k_asm) (by assumption) (by assumption)
theorem Gj {sym sd tl an fl fn fits e1 n ofn jy tx ty T' x y FN xs}:@Yv w p loose mean mg mb dp un gd cn cs a ccd cl outer A₀ base h₀ L m s Q E sym sd tl an fl fn fits e1 n ofn jy tx ty T' x y FN xs:=ZN (k:=Yu) rfl U1 (cS w p loose mean mg mb m gd cn cs ccd cl outer A₀ base h₀ s Q E |>.sa (gt dC.a [dp,un,a,L,sym,sd,tl,an,fl,fn,e1,n]) |>.svc (gt dC.vc [fits]) |>.sv (gt dC.v [ofn]) |>.svj (gt dC.vj [jy]) |>.so (gt dC.o [tx,ty]) |>.sb (gt dC.b [T']) |>.sm (gt dC.m [x,y]) |>.st (gt dC.t [FN]) |>.svh (gt dC.vh [xs]))
include B F X T hk
omit B F X T hk
noncomputable def Uc {sym sd tl an fl fn n:Nat}{jy:Hs}{tx ty:Tok}{x y:Int}{TX:List Str}{FN:List (Int×Int)}{S news rest:List (Addr×Obj)}:Prop:=∀ (B:Below A₀ base outer h₀)(F:Fr h₀ L s.heap m)(X:(K w.params).In h₀)(T:Top p loose mean mg mb h₀)(hk:cs.kind = .function)(N:News h₀ L s.heap news)(P:Tk S news rest)(hS:Zh w tl an fl fn TX FN S)(D:Za news)(hm1:(sym,instObj 154 sd)∈rest)(hm2:(sd,Zq jy tl an fl fn n)∈rest)(hb:FN.length<50000)(hdp:dp+5<recursionLimit)(hun:un+40<cLine)(ret:∀ (i:Nat)(t:Tok)(FN':List (Int×Int))(S':List (Addr×Obj))(h':Heap)(tk':Nat),FN'[i]? = some (x,y)→FN<+:FN'→FN'.length≤FN.length+1→Zh w tl an fl fn TX FN' S'→Fr h₀ L h' m→News h₀ L h' (S'++rest)→Za (S'++rest)→Q (.int i t) {s with heap:=h',toks:=tk'}),
   wpAny (model PR w) (ktrTop dp un gd cn cs L a ccd cl outer) (call (.ref 102) [.ref sym,.int x tx,.int y ty]) Q E s
noncomputable def Yw (c:Zf):Prop:=@cF _ (@Uc) c (c.a 4) (c.a 5) (c.a 6) (c.a 7) (c.a 8) (c.a 9) (c.a 10) (c.vj 0) (c.o 0) (c.o 1) (c.m 0) (c.m 1) (c.h 1) (c.t 0) (c.b 0) (c.b 1) (c.b 2)
noncomputable def Ub:Zf:=ZM Zj Yw
set_option maxHeartbeats 1000000 in
theorem Wd:Yw Ub:=by
  delta Yw cF
  k_extra "gS"
  exists Zf.h _ _,TX
  exists Zf.a _ _,sym,sd,tl,an,fl,fn,n
  exists Zf.vj _ _,jy
  exists Zf.o _ _,tx,ty
  exists Zf.m _ _,x,y
  exists Zf.t _ _,FN
  exists Zf.b _ _,S,news,rest
  intro B F X T hk N P hS D hm1 hm2 hb hdp hun ret
  delta Zq at *
  obtain ⟨its,fits,e1,e2,oan,ofn,kvs,xs,ks,rfl,i4,i5,i6,i7,⟨j1,j2,j3,j4⟩,i8,i9⟩:=hS
  have pm0:=(Zat [(an,oan),(tl,W.listOf its e1)] [(fl,W.listOf fits e2),(fn,ofn)] (ks++rest))
  have pm:=P.perm.trans pm0
  have N₁:News h₀ L s.heap ((fl,W.listOf fits e2)::(fn,ofn)::([(an,oan),(tl,W.listOf its e1)]++(ks++rest))):=Ze N pm
  have D₁:Za ((fl,W.listOf fits e2)::(fn,ofn)::([(an,oan),(tl,W.listOf its e1)]++(ks++rest))):=D.perm pm
  have hlen:xs.length=FN.length:=by
    have e:=j3.length
    rw [V4] at e
    simpa [kvsOf] using e.symm
  have up:∀ p∈rest,p∈[(an,oan),(tl,W.listOf its e1)]++(ks++rest):=fun p hp=>List.mem_append_right _ (List.mem_append_right _ hp)
  refine Gj B F X T hk N₁ D₁ (up _ hm1) (up _ hm2) j1 (j2.mono fun p hp=>?_) j3 j4 (by rw [hlen,sizeLine_eq];tb_start) (by unfold Zl;tb_start) hdp hun ?_ ?_
  · exact List.mem_append_right _ (List.mem_append_left _ hp)
  · intro u t o h' tk' h0 F' N'
    rcases Va Vz (x,y) FN with ⟨i,q1,q2⟩|⟨q1,q2⟩
    · rw [q2]
      exact ret i u FN _ h' tk' q1 (List.prefix_refl _) (by tb_start) ⟨its,fits,e1,e2,oan,ofn,kvs,xs,ks,rfl,i4,i5,i6,i7,⟨j1,j2,j3,j4⟩,i8,i9⟩ F' (Ze (fun p hp=>N' p (.tail _ hp)) pm0.symm) (D.perm P.perm)
    · rw [q2] at h0;exact absurd h0 (by decide)
  · intro u v t h' tk' o' h0 F' N' Dt hO'
    rcases Va Vz (x,y) FN with ⟨i,q1,q2⟩|⟨q1,q2⟩
    · rw [q2] at h0;exact absurd (by tb_start) h0
    · have e:=GC Vz (x,y) FN 0 q1
      rw [Nat.zero_add] at e
      have hf':=j3.stored (same_encTuple same_int) [x,y] (Flat.int (fits.size:Int) v)
      rw [← kvsOf_storedH xs [x,y] t] at hf'
      rw [i8] at hf' hO' ⊢
      have e':putD (encTuple PyData.int [x,y]) (PyData.int FN.length) (ZD YN 0 FN)=ZD YN 0 (FN++[(x,y)]):=e
      rw [e'] at hf'
      have Dn:=Dt.of (l':=(t,{cls :=.type "tuple",data :=.seq [Value.int x tx,Value.int y ty].toArray})::(fl,W.listOf (fits.push (.ref t)) (e2+1))::(fn,o')::([(an,oan),(tl,W.listOf its e1)]++(ks++rest))) rfl
      have pb:=Zb8 (t,({cls :=.type "tuple",data :=.seq [Value.int x tx,Value.int y ty].toArray}:Obj)) [(an,oan),(tl,W.listOf its e1)] [(fl,W.listOf (fits.push (.ref t)) (e2+1)),(fn,o')] (ks++rest)
      refine ret FN.length u (FN++[(x,y)]) _ h' tk' (by simp) (List.prefix_append _ _) (by simp) ⟨its,fits.push (.ref t),e1,e2+1,oan,o',kvs,storedH xs [x,y] t (.int (FN.length:Int) v),(t,{cls :=.type "tuple",data :=.seq [Value.int x tx,Value.int y ty].toArray})::ks,rfl,i4,i5,i6,i7,⟨hO',?_,hf',j4⟩,by simp [i8],?_⟩ F' (Ze N' pb) (Dn.perm pb)
      · intro z hz
        rcases mem_storedH hz with ⟨y',hy,e1',e2'⟩|⟨e1',e2'⟩
        · obtain ⟨oky,hmk,t'⟩:=j2 y' hy
          exact ⟨oky,.tail _ (by rw [e2'];exact hmk),by rw [e1'];exact t'⟩
        · exact ⟨_,by rw [e2'];exact .head _,by rw [e1'];exact TupKeyObj.made (ItemsAre.cons (intKind_is _ _ _ _) (ItemsAre.cons (intKind_is _ _ _ _) ItemsAre.nil))⟩
      · rw [List.nodup_append]
        refine ⟨i9,by simp,?_⟩
        intro a ha b hb e
        rw [List.mem_singleton.mp hb] at e
        exact q1 (e ▸ ha)
theorem VK {sym sd tl an fl fn n jy tx ty x y TX FN S news rest}:@Uc w p loose mean mg mb dp un gd cn cs a ccd cl outer A₀ base h₀ L m s Q E sym sd tl an fl fn n jy tx ty x y TX FN S news rest:=ZN (k:=Ub) rfl Wd (cS w p loose mean mg mb m gd cn cs ccd cl outer A₀ base h₀ s Q E |>.sh (gt dC.h [loose,TX]) |>.sa (gt dC.a [dp,un,a,L,sym,sd,tl,an,fl,fn,n]) |>.svj (gt dC.vj [jy]) |>.so (gt dC.o [tx,ty]) |>.sm (gt dC.m [x,y]) |>.st (gt dC.t [FN]) |>.sb (gt dC.b [S,news,rest]))
include B F X T hk
end
end
theorem rw5:True:=by
  walk_at "RST"
  walk_at "G slE"
  k_with "call ref" =>(k_here;k_dflt (refine' ZW ?B ?F ?X ?N ?T ?hk ?P ?S ?D ?m1 ?m2 ?hb ?hd ?hu ?_;(case B=>k_asm);(case F=>k_asm);(case X=>k_asm);(case N=>k_asm);(case T=>k_asm);(case hk=>first|exact rfl|assumption);(case S=>k_asm);(case P=>ktr_rel);(case D=>ktr_unf);(case m1=>k_mem);(case m2=>k_mem);(case hb=>tb_start);(case hd=>ktr_room);(case hu=>ktr_units));intro i' t' TX' S' h' tk' hi' pre' len' hS' F' N' D';(try dsimp only at N' D');(try dsimp only))
  k_with "call ref" =>(k_here;k_dflt (refine' VK ?B ?F ?X ?T ?hk ?N ?P ?S ?D ?m1 ?m2 ?hb ?hd ?hu ?_;(case B=>k_asm);(case F=>k_asm);(case X=>k_asm);(case N=>k_asm);(case T=>k_asm);(case hk=>first|exact rfl|assumption);(case S=>k_asm);(case P=>ktr_rel);(case D=>ktr_unf);(case m1=>k_mem);(case m2=>k_mem);(case hb=>tb_start);(case hd=>ktr_room);(case hu=>ktr_units));intro i' t' FN' S' h' tk' hi' pre' len' hS' F' N' D';(try dsimp only at N' D');(try dsimp only))
  trivial
section
variable {w:World}{p:Program}{loose:List Str}{mean:ExcName→Option Value}{mg mb:Str→Option Value}
   {dp un:Nat}{gd:Option (List Code)}{cn:Str}{cs:Scope}{a:Addr}{ccd:Value}{cl:List (Str×Addr)}{outer:List Env}{A₀:Around}{base h₀:Heap}{L:Addr}{m:Str→Option Value}{s:Shared}{Q E:Value→Shared→Prop}
   (B:Below A₀ base outer h₀)(F:Fr h₀ L s.heap m)(X:(K w.params).In h₀)(T:Top p loose mean mg mb h₀)(hk:cs.kind = .function)
include B F X T hk
theorem ZQ {sym sd tl an fl fn n:Nat}{jy:Hs}{tx ty:Tok}{x:Str}{y:Int}{TX:List Str}{FN:List (Int×Int)}{S news rest:List (Addr×Obj)}
   (N:News h₀ L s.heap news)(P:Tk S news rest)(hS:Zh w tl an fl fn TX FN S)(D:Za news)
   (hm1:(sym,instObj 154 sd)∈rest)(hm2:(sd,Zq jy tl an fl fn n)∈rest)(hb:TX.length<50000)(hb':FN.length<50000)
   (hdp:dp+15<recursionLimit)(hun:un+80<cLine)
   (ret:∀ (i:Nat)(t:Tok)(ia:Nat)(TX':List Str)(FN':List (Int×Int))(S':List (Addr×Obj))(h':Heap)(tk':Nat),TX'[ia]? = some x→FN'[i]? = some ((ia:Int),y)→TX<+:TX'→TX'.length≤TX.length+1→FN<+:FN'→FN'.length≤FN.length+1→Zh w tl an fl fn TX' FN' S'→Fr h₀ L h' m→News h₀ L h' (S'++rest)→Za (S'++rest)→Q (.int i t) {s with heap:=h',toks:=tk'}) :
   wpAny (model PR w) (ktrTop dp un gd cn cs L a ccd cl outer) (call (.ref 109) [.ref sym,.str x tx,.int y ty]) Q E s:=by
  delta Zq at *
  have N₁:=Ze N P.perm
  have D₁:=D.perm P.perm
  refine wpAny_call ?_
  k_dflt cell_enter
  k_steps
  exact ret _ _ _ _ _ _ _ _ (by assumption) (by assumption) (by assumption) (by assumption) (by assumption) (by assumption) (by assumption) (by k_asm) (by k_asm) (by assumption)
end
theorem rw6:True:=by
  walk_at "RST"
  walk_at "G slE"
  trivial
section
variable {w:World}{p:Program}{loose:List Str}{mean:ExcName→Option Value}{mg mb:Str→Option Value}
   {dp un:Nat}{gd:Option (List Code)}{cn:Str}{cs:Scope}{a:Addr}{ccd:Value}{cl:List (Str×Addr)}{outer:List Env}{A₀:Around}{base h₀:Heap}{L:Addr}{m:Str→Option Value}{s:Shared}{Q E:Value→Shared→Prop}
   (B:Below A₀ base outer h₀)(F:Fr h₀ L s.heap m)(X:(K w.params).In h₀)(T:Top p loose mean mg mb h₀)(hk:cs.kind = .function)
include B F X T hk
theorem ZbL {sym sd tl an fl fn n:Nat}{jy:Hs}{ti:Tok}{x:Str}{i:Nat}{TX:List Str}{FN:List (Int×Int)}{S news rest:List (Addr×Obj)}
   (N:News h₀ L s.heap news)(P:Tk S news rest)(hS:Zh w tl an fl fn TX FN S)(D:Za news)
   (hm1:(sym,instObj 154 sd)∈rest)(hm2:(sd,Zq jy tl an fl fn n)∈rest)(hb:TX.length<50000)
   (hi:TX[i]? = some x)
   (hdp:dp+5<recursionLimit)(hun:un+40<cLine)
   (ret:∀ (t:Tok)(h':Heap)(tk':Nat),Fr h₀ L h' m→News h₀ L h' news→Q (.str x t) {s with heap:=h',toks:=tk'}) :
   wpAny (model PR w) (ktrTop dp un gd cn cs L a ccd cl outer) (call (.ref 95) [.ref sym,.int i ti]) Q E s:=by
  delta Zq at *
  obtain ⟨its,fits,e1,e2,oan,ofn,kvs,xs,ks,rfl,i4,i5,i6,i7,i8,i9⟩:=hS
  have N₁:=Ze N P.perm
  have D₁:=D.perm P.perm
  obtain ⟨t0,hx0⟩:=i7 i x hi
  have hlt:i<TX.length:=(List.getElem?_eq_some_iff.mp hi).1
  refine wpAny_call ?_
  k_dflt cell_enter
  k_steps
  exact ret _ _ _ (by k_asm) (Ze (by k_asm) P.perm.symm)
end
section
open PySem PySem.W PySem.Calls PySem.Spec PyProof.Rows PyProof.V
set_option autoImplicit false
noncomputable def ZH (h h':Heap):Prop:=∀ b o,h.get? b=some o→∃ o',h'.get? b=some o'∧o'.dict=o.dict∧o'.cls=o.cls
theorem ZH.refl (h:Heap):ZH h h:=fun _ o e=>⟨o,e,rfl,rfl⟩
theorem ZH.trans {h₁ h₂ h₃:Heap}(x:ZH h₁ h₂)(y:ZH h₂ h₃):ZH h₁ h₃:=fun b o e=>by
  obtain ⟨o',e',d,c⟩:=x b o e
  obtain ⟨o'',e'',d',c'⟩:=y b o' e'
  exact ⟨o'',e'',d'.trans d,c'.trans c⟩
noncomputable def Zej (f:Obj→Obj):Prop:=∀ o,(f o).dict=o.dict∧(f o).cls=o.cls∧(f o).isFreed=o.isFreed
theorem ZH.upd {h:Heap}{a:Addr}{f:Obj→Obj}(F:Zej f):ZH h (h.update a f):=fun b o e=>by
  by_cases q:a=b
  · subst q
    exact ⟨f o,Heap.get?_update_self f e ((F o).2.2.trans (Heap.get?_some_iff.mp e).2),(F o).1,(F o).2.1⟩
  · exact ⟨o,(Heap.get?_update_other h f q).trans e,rfl,rfl⟩
noncomputable def Zo {α:Type}:Sem α→Prop
  | .pure _=>True
  | .raise _=>True
  | .unsupported _=>True
  | .finish _=>True
  | .rule _ k=>Zo (k ())
  | .at _ k=>Zo (k ())
  | .load _ _ k=>∀ o,Zo (k o)
  | .update _ _ f k=>Zej f∧Zo (k ())
  | .alloc _ k=>∀ a,Zo (k a)
  | .loadIfAlive _ k=>∀ o,Zo (k o)
  | .point _ k=>Zo (k ())
  | .register _ _=>True
  | .fresh k=>∀ t,Zo (k t)
  | .ask k=>∀ x,Zo (k x)
  | .choose _ _ k=>∀ n,Zo (k n)
  | .os _ _ k=>∀ r,Zo (k r)
  | .call .. =>False
  | .handled _ k=>∀ x,Zo (k x)
  | .newGen _ k=>∀ n,Zo (k n)
  | .genState _ k=>∀ x,Zo (k x)
  | .resume .. =>False
  | .yield .. =>True
  | .stack k=>∀ x,Zo (k x)
  | .fork .. =>True
  | .thread k=>∀ n,Zo (k n)
  | .await .. =>True
theorem Zo.bind {α β:Type}{m:Sem α}{f:α→Sem β}(h:Zo m)(k:∀ a,Zo (f a)):Zo (m.bind f):=by
  induction m with
  | pure a=>exact k a
  | rule t c ih=>exact ih () h
  | «at» p c ih=>exact ih () h
  | load a p c ih=>exact fun o=>ih o (h o)
  | update a p g c ih=>exact ⟨h.1,ih () h.2⟩
  | alloc o c ih=>exact fun a=>ih a (h a)
  | loadIfAlive a c ih=>exact fun o=>ih o (h o)
  | point l c ih=>exact ih () h
  | fresh c ih=>exact fun t=>ih t (h t)
  | ask c ih=>exact fun t=>ih t (h t)
  | choose s n c ih=>exact fun t=>ih t (h t)
  | os r l c ih=>exact fun t=>ih t (h t)
  | call=>exact h.elim
  | handled o c ih=>exact fun t=>ih t (h t)
  | newGen c k ih=>exact fun t=>ih t (h t)
  | genState g c ih=>exact fun t=>ih t (h t)
  | resume=>exact h.elim
  | stack c ih=>exact fun t=>ih t (h t)
  | thread c ih=>exact fun t=>ih t (h t)
  | _=>trivial
theorem Zo.bind' {α β:Type}{m:Sem α}{f:α→Sem β}(h:Zo m)(k:∀ a,Zo (f a)):Zo (m >>= f):=Zo.bind h k
theorem Zek {α:Type}{M:Model}{Γ:PySem.Ctx}(t:Sem α):Zo t→∀ (Q:α→Pos→Shared→Prop)(E:Value→Pos→Shared→Prop)(p:Pos)(s:Shared)(h₁:Heap),ZH h₁ s.heap →
    Sem.wp M Γ t (fun a p' s'=>ZH h₁ s'.heap→Q a p' s') (fun e p' s'=>ZH h₁ s'.heap→E e p' s') p s→Sem.wp M Γ t Q E p s:=by
  induction t with
  | pure a=>intro _ Q E p s h₁ k h;exact h k
  | raise e=>intro _ Q E p s h₁ k h;exact h k
  | unsupported=>intro _ Q E p s h₁ k h;exact h
  | finish=>intro _ Q E p s h₁ k h;exact h
  | rule t c ih=>intro S Q E p s h₁ k h;exact ih () S Q E _ _ h₁ k h
  | «at» p c ih=>intro S Q E p s h₁ k h;exact ih () S Q E _ _ h₁ k h
  | load a pt c ih=>intro S Q E p s h₁ k h;obtain ⟨o,e,h⟩:=h;exact ⟨o,e,ih o (S o) Q E _ _ h₁ k h⟩
  | update a pt g c ih=>intro S Q E p s h₁ k h;exact ⟨h.1,ih () S.2 Q E _ _ h₁ (k.trans (ZH.upd S.1)) h.2⟩
  | alloc o c ih=>intro S Q E p s h₁ k h;exact ih _ (S _) Q E _ _ h₁ (k.trans fun b o e=>⟨o,Heap.get?_push_of_some _ e,rfl,rfl⟩) h
  | loadIfAlive a c ih=>intro S Q E p s h₁ k h;exact ih _ (S _) Q E _ _ h₁ k h
  | point l c ih=>intro S Q E p s h₁ k h;exact ih () S Q E _ _ h₁ k h
  | register=>intro S Q E p s h₁ k h;exact h
  | fresh c ih=>intro S Q E p s h₁ k h;exact ih _ (S _) Q E _ _ h₁ k h
  | ask c ih=>intro S Q E p s h₁ k h;exact ih _ (S _) Q E _ _ h₁ k h
  | choose src n c ih=>intro S Q E p s h₁ k h;exact ⟨h.1,ih _ (S _) Q E _ _ h₁ k h.2⟩
  | os r l c ih=>intro S Q E p s h₁ k h;exact ih _ (S _) Q E _ _ h₁ k h
  | call=>intro S;exact S.elim
  | handled o c ih=>intro S Q E p s h₁ k h;exact ih _ (S _) Q E _ _ h₁ k h
  | newGen c kk ih=>intro S Q E p s h₁ k h;exact ih _ (S _) Q E _ _ h₁ k h
  | genState g c ih=>intro S Q E p s h₁ k h;obtain ⟨o,e,h⟩:=h;exact ⟨o,e,ih _ (S _) Q E _ _ h₁ k h⟩
  | resume=>intro S;exact S.elim
  | yield=>intro S Q E p s h₁ k h;exact h
  | stack c ih=>intro S Q E p s h₁ k h;exact ih _ (S _) Q E _ _ h₁ k h
  | fork=>intro S Q E p s h₁ k h;exact h
  | thread c ih=>intro S Q E p s h₁ k h;exact ih _ (S _) Q E _ _ h₁ k h
  | await=>intro S Q E p s h₁ k h;exact h
theorem ZR {α:Type}{M:Model}{A:Around}{t:Sem α}{Q:α→Shared→Prop}{E:Value→Shared→Prop}{s:Shared}(S:Zo t)
    (h:wpAny M A t (fun a s'=>ZH s.heap s'.heap→Q a s') (fun e s'=>ZH s.heap s'.heap→E e s') s):wpAny M A t Q E s :=
  fun Γ p hi=>Zek t S _ _ p s s.heap (.refl _) (h Γ p hi)
theorem Uj (f:Array Value→Array Value):Zej (Obj.mapFields f):=fun o=>by
  obtain ⟨c,d,dt,sl⟩:=o
  cases dt <;> exact ⟨rfl,rfl,rfl⟩
theorem Yc (v:Value)(i:Nat):Zo (field v i):=by
  unfold field
  refine Zo.bind' ?_ fun a=>?_
  · unfold fieldsOf
    cases v <;> first|trivial|skip
    refine Zo.bind' (fun _=>trivial) fun o=>?_
    split <;> trivial
  · split <;> trivial
theorem Z2 (v:Value)(i:Nat)(x:Value):Zo (setField v i x):=by
  unfold setField
  cases v <;> first|trivial|skip
  unfold updateField
  refine Zo.bind' (fun _=>trivial) fun o=>?_
  split
  · split
    · exact ⟨Uj _,trivial⟩
    · trivial
  · trivial
theorem UH:∀ l:List Env,Zo (readyFrames l)
  | []=>trivial
  | env::outer=>by
    unfold readyFrames
    split
    · refine Zo.bind' (fun _=>trivial) fun o=>?_
      split
      · trivial
      · refine Zo.bind' ?_ fun i=>?_
        · unfold behindIsImport
          split
          · trivial
          · split
            · trivial
            · exact Zo.bind' (Yc _ _) fun _=>trivial
        · refine Zo.bind' ?_ fun b=>?_
          · unfold keptBack
            split
            · split
              · trivial
              · refine Zo.bind' (m:=underTheClaimsCaller) (Zo.bind' (m:=stack) (fun _=>trivial) fun _=>trivial) fun _=>trivial
            · trivial
          · refine Zo.bind' (m:=update _ _) ⟨fun o=>?_,trivial⟩ fun _=>UH outer
            obtain ⟨c,d,dt,sl⟩:=o
            cases dt <;> exact ⟨rfl,rfl,rfl⟩
    · trivial
theorem Gc (env:Env):Zo (PySem.frameOf env):=by
  unfold PySem.frameOf frameEnvs
  refine Zo.bind' (Zo.bind' (m:=stack) (fun _=>trivial) fun _=>trivial) fun l=>?_
  refine Zo.bind' ?_ fun r=>?_
  · generalize l.dropWhile (fun x=>x.frame != env.frame)=l'
    cases l' with
    | nil=>trivial
    | cons e o =>
      unfold frameObject
      exact Zo.bind' (UH _) fun _=>trivial
  · split <;> trivial
theorem WD (f:Addr)(b:Bool):Zo (entryPlaceOf f b):=by
  unfold entryPlaceOf
  refine Zo.bind' (m:=stack) (fun _=>trivial) fun a=>?_
  split <;> trivial
theorem GL (ty:String)(vs:Array Value):Zo (newObj (.type ty) (.fields vs)):=by
  unfold newObj
  dsimp only
  by_cases h:vs.size > sizeLine+2
  · rw [if_pos h];exact Zo.bind' (m:=unsupported _) trivial fun _=>Zo.bind' (m:=alloc _) (fun _=>trivial) fun _=>trivial
  · rw [if_neg h];exact Zo.bind' (m:=alloc _) (fun _=>trivial) fun _=>trivial
theorem Yr (e:Value)(env:Env):Zo (noteFrame e env):=by
  unfold noteFrame
  split
  · refine Zo.bind' (Yc _ _) fun hd=>?_
    have rest:∀ hd:Value,Zo (do setField e 1 (← EntryCells.newEntry hd (← PySem.frameOf env) .none (rawInt ‹Addr›) .none (← entryPlaceOf ‹Addr› (hd != .none)))):=fun hd =>
      Zo.bind' (Gc env) fun fr=>Zo.bind' (WD _ _) fun pl=>Zo.bind' (by
        unfold EntryCells.newEntry newFields
        exact GL _ _) fun b=>Z2 _ _ _
    split
    · refine Zo.bind' (Yc _ _) fun x=>?_
      split
      · trivial
      · exact Zo.bind' (Z2 _ _ _) fun _=>rest hd
    · exact rest hd
  · trivial
theorem ZS (e:Value)(f:Option Addr):Zo (setFlight e f):=by
  unfold setFlight
  refine Zo.bind' (Yc _ _) fun tb=>?_
  split
  · exact Z2 _ _ _
  · trivial
theorem Vb (env:Env)(e:Value):Zo (leaving env e):=by
  unfold leaving
  exact Zo.bind' (Yr _ _) fun _=>ZS _ _
end
section
open PySem PySem.W PySem.Calls PySem.Spec PyProof.Rows PyProof.V
set_option autoImplicit false
noncomputable def RaisedD (base G:Heap)(l:List Env)(e:Addr)(cls:Value)(d:Addr)(news:List (Addr×Obj))(h:Heap):Prop :=
  RaisedSN base G l e cls news h∧∃ oe,h.get? e=some oe∧oe.dict=some d
theorem WN {env:Env}{L b:Addr}{outer:List Env}(hm:b∈(env::outer).filterMap (·.frame))(hf:env.frame=some L:=by rfl):b=L∨b∈outer.filterMap (·.frame):=by
  rw [List.filterMap_cons,hf] at hm
  exact List.mem_cons.mp hm
section
variable {M:Model}{A:Around}{E:Value→Shared→Prop}{s':Shared}{base g g₂:Heap}{outer:List Env}{L a e d:Addr}{m:Str→Option Value}{name:Str}{scope:Scope}{cd:Value}{cl:List (Str×Addr)}{news:List (Addr×Obj)}{cls:Value}
theorem Wa {Q:Unit→Shared→Prop}{oe:Obj}{vs:Array Value}{a0:Value}(K:Below A base outer g)(F:Fr g L s'.heap m)(N:News g L s'.heap ((e,oe)::news))(ne:∀ q∈news,q.1≠e)
    (hc:oe.cls=cls) (hdd:oe.dict=some d) (hd:oe.data = .fields vs) (h1:vs[1]? = some .none) (h0:vs[0]? = some a0)
    (hQ:∀ h',RaisedD base g outer e cls d news h'→g.UpToSlots h'→Q () {s' with heap:=h'}) (hk:scope.kind = .function:=by rfl) :
    wpAny M (A.deeper (envX name scope L a cd cl)) (leaving (envX name scope L a cd cl) (.ref e)) Q E s':=by
  have K':=pushX (env:=envX name scope L a cd cl) K F rfl hk
  have he:=(N (e,oe) (.head _)).1
  have hge:g.get? e=none:=(N (e,oe) (.head _)).2.2
  let fs:=(envX name scope L a cd cl::outer).filterMap (·.frame)
  have notE:e∉fs:=fun q=>by
    obtain ⟨_,o,ho,hn⟩:=K'.frames.mem q
    rw [he] at ho
    cases ho
    exact hn _ hd
  have gl:∀ b o,g.get? b=some o→b∉outer.filterMap (·.frame)→(hideAll s'.heap (e::fs)).get? b=some o:=fun b o q nm=>hideAll_get _ (F.keep b o q) fun hm=>by
    rcases List.mem_cons.mp hm with z|hm
    · rw [z,hge] at q;cases q
    · rcases WN hm with z|z
      · rw [z,kts_self F] at q;cases q
      · exact nm z
  have bs:base.StaysIn (hideAll s'.heap (e::fs)):=fun b o q=>gl b o (K.stays b o q) fun hm=>by
    rw [(K.frames.mem hm).1] at q;cases q
  have nl:∀ q∈news,(hideAll s'.heap (e::fs)).get? q.1=some q.2∧g.get? q.1=none∧base.get? q.1=none:=fun q hq=>by
    obtain ⟨n1,n2,n3⟩:=N q (.tail _ hq)
    refine ⟨hideAll_get _ n1 fun hm=>?_,n3,fresh_of_stays K.stays n3⟩
    rcases List.mem_cons.mp hm with z|hm
    · exact ne q hq z
    · rcases WN hm with z|z
      · exact n2 z
      · obtain ⟨o,ho,_⟩:=(K.frames.mem z).2
        rw [n3] at ho;cases ho
  have hen:(hideAll s'.heap (e::fs)).get? e=none:=hideAll_none _ (.head _)
  refine ZR (Vb _ _) ?_
  refine wpAny_leaving_firstW K'.stack (funFrames_hide K'.frames fun env hm b hb =>.tail _ (List.mem_filterMap.mpr ⟨env,hm,hb⟩)) rfl he (fun b o q=>of_hideAll _ q) hen hd h1 h0 fun h' hL dk=>?_
  obtain ⟨k1,⟨_,_,k2⟩,k3,k4⟩:=hL
  obtain ⟨o',ho',hd',_⟩:=dk e oe he
  exact hQ h' ⟨⟨_,a0,bs,gl,nl,k1,hen,k2,by rw [← hc];exact k3⟩,o',ho',hd'.trans hdd⟩ ((Heap.UpToSlots.of_keeps F.keep).trans k4)
theorem WR {Q:Unit→Shared→Prop}(K:Below A base outer g)(F:Fr g L g₂ m)(R:RaisedD base g₂ (envX name scope L a cd cl::outer) e cls d news s'.heap)(hsm:g₂.UpToSlots s'.heap)
    (hQ:∀ h',RaisedD base g outer e cls d news h'→g.UpToSlots h'→Q () {s' with heap:=h'}) :
    wpAny M (A.deeper (envX name scope L a cd cl)) (leaving (envX name scope L a cd cl) (.ref e)) Q E s':=by
  obtain ⟨⟨B,a0,hB,hBG,hl,hfl⟩,oe,he,hd⟩:=R
  refine ZR (Vb _ _) (wpAny_leaves_onW (Around.frames_deeper K.stack) rfl hfl fun h' x1 x2 dk=>?_)
  obtain ⟨o',ho',hd',_⟩:=dk e oe he
  refine hQ h' ⟨⟨B,a0,hB,fun b o q nm=>hBG b o (F.keep b o q) fun hm=>?_,fun q hq=>⟨(hl q hq).1,kts_none F.keep (hl q hq).2.1,(hl q hq).2.2⟩,x1⟩,o',ho',hd'.trans hd⟩ ((Heap.UpToSlots.of_keeps F.keep).trans (hsm.trans x2))
  rcases WN hm with z|z
  · rw [z,kts_self F] at q;cases q
  · exact nm z
theorem Zgu {P:Shared→Prop}(K:Below A base outer g)(R:RaisedD base g₂ (envX name scope L a cd cl::outer) e cls d news s'.heap)(hsm:g₂.UpToSlots s'.heap)
    (k:∀ h',RaisedD base g₂ (envX name scope L a cd cl::outer) e cls d news h'→g₂.UpToSlots h'→P {s' with heap:=h'}) :
    wpAny M (A.deeper (envX name scope L a cd cl)) (noteFrame (.ref e) (envX name scope L a cd cl))
      (fun _ s₂=>wpAny M (A.deeper (envX name scope L a cd cl)) (setFlight (.ref e) none) (fun _ s₃=>P s₃) E s₂) E s':=by
  obtain ⟨⟨B,a0,hB,hBG,hl,hfl⟩,oe,he,hd⟩:=R
  refine ZR (Yr _ _) (wpAny_looks_onW (Around.frames_deeper K.stack) rfl hfl fun h₄ held u₄ dk₄=>?_)
  refine ZR (ZS _ _) (wpAny_landsW held fun h₅ fl u₅ dk₅=>?_)
  obtain ⟨o',ho',hd',_⟩:=(dk₄.trans dk₅) e oe he
  exact k h₅ ⟨⟨B,a0,hB,hBG,hl,fl⟩,o',ho',hd'.trans hd⟩ (hsm.trans (u₄.trans u₅))
end
section
variable {prog:Program}{w:World}{A₀:Around}{E:Value→Shared→Prop}{s':Shared}{base g g₀ G:Heap}{outer:List Env}{L a e d:Addr}{m:Str→Option Value}{name:Str}{scope:Scope}{cd cls:Value}
  {n:Str} {b₀:Stmt} {suite:List Stmt} {pos:Pos} {rest:List ExceptHandler} {Q:Flow→Shared→Prop} {news:List (Addr×Obj)} {KF:Frag} {tt:Expr}
  {p:Program} {loose:List Str} {mean:ExcName→Option Value} {mg mb:Str→Option Value}
end
end
section
open PySem PySem.W PySem.Calls PySem.Spec PyProof.Rows PyProof.V
open Builtin Builtin.ObjectAttr
set_option autoImplicit false
@[reducible] noncomputable def ball:Str :=.ofString "ball"
@[reducible] noncomputable def Zp (d:Option Addr)(vs:Array Value):Obj:=⟨.ref 51,d,.fields vs,#[]⟩
theorem Zbf (self:Value):refuseLoop self "__setattr__" [.ref 51,.ref 31,.type "Exception",.type "BaseException",.type "object"]=pure ():=by
  rw [refuseLoop_ref,refuseLoop_ref];exact PySem.F.store_Exception.passes self
section
variable {prog:Program}{w:World}{A:Around}{E:Value→Shared→Prop}{s:Shared}
theorem Zd5 (P:Params):∃ cd,clsIn (K P) 51=some cd∧cd.hasDict=true∧cd.mro=[.ref 51,.ref 31,.type "Exception",.type "BaseException",.type "object"]:=⟨_,rfl,rfl,rfl⟩
theorem Zhb (P:Params):findIn (K P) (.ref 51) "__setattr__" = some (some (.builtin "object.__setattr__")):=by kernel_rfl
theorem Zed (P:Params):findIn (K P) (.ref 51) ball=some none:=by kernel_rfl
theorem ZeJ {e:Addr}{vs:Array Value}{v:Value}{tk:Tok}{R:Result→Shared→Prop}(X:(K w.params).In s.heap)(he:s.heap.get? e=some (Zp none vs))
    (h:∀ h' hsh,(∀ b o,b≠e→s.heap.get? b=some o→h'.get? b=some o)→h'.get? e=some (Zp (some s.heap.objs.size) vs)→h'.get? s.heap.objs.size=some (dictOf [⟨hsh,.str ball s.toks,v⟩] 1)→R (.ok (.ret .none)) {s with heap:=h',toks:=s.toks+1}) :
    codeAny (model prog w) A (.call (.builtin "object.__setattr__") ⟨[.ref e,.str ball tk,v],[]⟩) R s:=by
  have I:InstAt s.heap e (Zp none vs) 51 none:=⟨he,rfl,rfl,trivial⟩
  obtain ⟨cd,hc,hdi,hmro⟩:=Zd5 w.params
  have SF:=PySem.F.store_object
  have sub:Looks (model prog w) s.heap (isInstance (.ref e) (.type "object")) true:=I.type.andThen (looks_mroIn X (by unfold mroIn;rw [hc,Option.bind_some,hmro];decide +kernel))
  refine codeAny_call_builtin SF.slot.plain SF.entry (@check_slot (model prog w) _ _ s "object.__setattr__" "object" "__setattr__" (.ref e) [.str ball tk,v] [] _ SF.kind SF.split sub (SF.args (.ref e) (.str ball tk) v) ?_)
  have hm:Looks (model prog w) s.heap (mroOf (.ref 51)) cd.mro:=(looks_clsIn X hc).andThen .now
  rw [osa_eq,refuse_eq]
  refine wpAny_bind (wpAny_bind (I.type.here (wpAny_bind (hm.here ?_))))
  rw [hmro,Zbf]
  refine wpAny_pure (wpAny_bind (I.type.here (wpAny_bind ((looks_findIn X (Zed _)).here (wpAny_bind ?_)))))
  refine wpAny_pure ?_
  dsimp only
  refine wpAny_bind (wpAny_pure (wpAny_bind (wpAny_bind (wpAny_loadPart he (wpAny_bind ((looks_clsIn X hc).here ?_))))))
  rw [hdi]
  have hes:e≠s.heap.objs.size:=Nat.ne_of_lt (Heap.lt_size he)
  have he₁:(s.heap.push {cls :=.type "dict",data :=.dict #[] }).get? e=some (Zp none vs):=Heap.get?_push_of_some _ he
  refine wpAny_bind (wpAny_alloc' ?_)
  refine wpAny_bind (wpAny_update' he₁ ?_)
  refine wpAny_pure ?_
  let h₂:=(s.heap.push {cls :=.type "dict",data :=.dict #[] }).update e fun o=>{cls:=o.cls,dict:=some s.heap.objs.size,data:=o.data,slots:=o.slots}
  have D:h₂.get? s.heap.objs.size=some {cls :=.type "dict",data :=.dict #[] }:=(Heap.get?_update_ne _ _ _ _ hes.symm).trans (Heap.get?_push_at rfl rfl)
  show wpAny _ _ (storeInDict s.heap.objs.size (.str ball tk) ball v) _ _ _
  unfold storeInDict newKeyGuard
  refine wpAny_bind (wpAny_pure (wpAny_bind ?_))
  unfold nsSet
  refine wpAny_bind (wpAny_bind (wpAny_askSetting (wpAny_pure (wpAny_bind (wpAny_mkText (wpAny_bind (wpAny_loadPart D ?_)))))))
  dsimp only
  rw [aRefKeyMayBeTheName_at]
  rw [if_neg (by simp)]
  refine wpAny_updatePart D ?_
  have D':=Heap.get?_update_self (Obj.putName ball (PyData.keyHash w.params ball) (.str ball s.toks) v) D rfl
  refine wpAny_bind (wpAny_lookBehind D' (pastItsLine_dict (by rw [sizeLine_eq];exact Nat.le_of_ble_eq_true rfl)) ?_)
  refine wpAny_pure (h _ (PyData.keyHash w.params ball) (fun b o hb hbo=>?_) ?_ ?_)
  · exact (Heap.get?_update_ne _ _ _ _ (Nat.ne_of_lt (Heap.lt_size hbo))).trans ((Heap.get?_update_ne _ _ _ _ hb).trans (Heap.get?_push_of_some _ hbo))
  · exact (Heap.get?_update_ne _ _ _ _ hes).trans (Heap.get?_update_self _ he₁ rfl)
  · exact D'
theorem ZeE {e:Addr}{vs:Array Value}{v:Value}{Q:Unit→Shared→Prop}(X:(K w.params).In s.heap)(he:s.heap.get? e=some (Zp none vs))
    (h:∀ h' hsh tk,(∀ b o,b≠e→s.heap.get? b=some o→h'.get? b=some o)→h'.get? e=some (Zp (some s.heap.objs.size) vs)→h'.get? s.heap.objs.size=some (dictOf [⟨hsh,.str ball tk,v⟩] 1)→Q () {s with heap:=h',toks:=s.toks+2}) :
    wpAny (model prog w) A (setAttr (.ref e) ball v) Q E s :=
  set_plain X (⟨he,rfl,rfl,trivial⟩:InstAt s.heap e (Zp none vs) 51 none) (Zhb _) (ZeJ (s:={s with toks:=s.toks+1}) X he fun h' hsh a b c=>h h' hsh _ a b c)
end
end
section
open PySem PySem.W PySem.Calls PySem.Spec PyProof.Rows PyProof.V
set_option autoImplicit false
section
variable {prog:Program}{w:World}{A:Around}{E:Value→Shared→Prop}
noncomputable def Zmu (es:Array DictEntry):Str→Option Value:=fun n=>nsFind es n
theorem ZgL {P:Params}{h:Heap}(X:(K P).In h):∃ m31 m51,h.Ns 30 m31∧m31 "__init__" = none∧h.Ns 50 m51∧m51 "__init__" = some (.ref 48):=by
  have h30:h.get? 30=some (o30 P):=X 30 _ rfl
  have h50:h.get? 50=some (o50 P):=X 50 _ rfl
  refine ⟨_,_,⟨_,_,_,h30,rfl,?_,fun n=>rfl⟩,?_,⟨_,_,_,h50,rfl,?_,fun n=>rfl⟩,?_⟩
  · intro e he
    simp only [List.mem_toArray,List.mem_cons,List.not_mem_nil,or_false] at he
    rcases he with rfl|rfl|rfl|rfl|rfl <;> exact ⟨_,_,rfl⟩
  · kernel_rfl
  · intro e he
    simp only [List.mem_toArray,List.mem_cons,List.not_mem_nil,or_false] at he
    rcases he with rfl|rfl|rfl|rfl|rfl <;> exact ⟨_,_,rfl⟩
  · kernel_rfl
noncomputable def U6 {s:Shared}{b:Value}{Q:Value→Shared→Prop}:Prop:=∀ (X:(K w.params).In s.heap)(hq:∀ h' e,Heap.MadeExcOf s.heap h' e (.ref 51) [b]→wpAny (model prog w) (A.under (.builtin "type.__call__" ⟨[.ref 51,b],[]⟩)) (call (.ref 48) [.ref e,b]) (fun r s'=>r = .none∧Q (.ref e) s') E {s with heap:=h'}),
   wpAny (model prog w) A (call (.ref 51) [b]) Q E s
noncomputable def YZ (c:Zf):Prop:=@U6 (c.d 0) (c.c 0) (c.e 0) (c.g 0) (c.f 0) (c.p 0) (c.g 1)
noncomputable def U5:Zf:=ZM Zj YZ
theorem WZ:YZ U5:=by
  delta YZ
  exists Zf.d _ _,prog
  exists Zf.c _ _,w
  exists Zf.e _ _,A
  exists Zf.g _ _,E,Q
  exists Zf.f _ _,s
  exists Zf.p _ _,b
  intro X hq
  obtain ⟨h,g,d,t,os⟩:=s
  have Fn:=PySem.F.excBase_Exception
  have hC:∃ k0 k1 k2 k3 k5,h.get? 51=some (excClassObj (.ofString "PrologError") (.ofString "PrologError") 51 50 [.ref 31] [.ref 31,.type "Exception",.type "BaseException",.type "object"] true [] [] false none none k0 k1 k2 k3 k5 "Exception.__new__"):=⟨_,_,_,_,_,X 51 _ rfl⟩
  obtain ⟨k0,k1,k2,k3,k5,hC⟩:=hC
  have hA:=X 31 _ rfl
  have hI:=X 48 _ rfl
  obtain ⟨m31,m51,hn31,i31,hn,i51⟩:=ZgL X
  have T:OwnTail h [.type "Exception",.type "BaseException",.type "object"] [.ref 31,.type "Exception",.type "BaseException",.type "object"] :=.own hA hn31 i31 .base
  have f1:=tc_lookup
  have f2:=tc_bind (.ref 51)
  have hT:(⟨h,g,d,t,os⟩:Shared).TypeIs (.ref 51) "type" :=⟨_,hC,rfl⟩
  refine wpAny_call (codeAny_of_tree ?_)
  show wpAny _ _ (callAny (.ref 51) _) _ _ _
  repeat (any_goals (first|assumption|with_reducible refine wpAny_loadPart_at hC ?_|wp_step))
  refine ⟨rfl,?_⟩
  refine codeAny_call_builtin_at (Code.quiet_builtin _ (by decide +kernel)) entry_typeCall (wpAny_check_type_call_sub (C:=51) hC ?_)
  repeat (first|with_reducible refine wpAny_loadPart_at hC ?_|with_reducible refine wpAny_madeBy_exc hC ?_|wp_step)
  refine codeAny_call_builtin_code (Code.quiet_builtin _ Fn.quiet) (wpAny_check_new_subU Fn (by decide +kernel) T hC ?_)
  refine codeAny_exc_new_subU Fn (by decide +kernel) Fn T hC ?_ (Nat.le_of_ble_eq_true rfl)
  show wpAny _ _ _ _ _ _
  have up:∀ q o,h.get? q=some o→((h.push ({cls :=.type "tuple",data :=.seq [b].toArray}:Obj)).push ({cls :=.ref 51,data :=.fields #[.ref h.objs.size,.none,.none,.none,.bool false,.none] }:Obj)).get? q=some o:=fun q o e=>Heap.get?_push_of_some _ (Heap.get?_push_of_some _ e)
  have hC₁:=up _ _ hC
  have hI₁:=up _ _ hI
  have hget:((h.push ({cls :=.type "tuple",data :=.seq [b].toArray}:Obj)).push ({cls :=.ref 51,data :=.fields #[.ref h.objs.size,.none,.none,.none,.bool false,.none] }:Obj)).get? (h.objs.size+1)=some ({cls :=.ref 51,data :=.fields #[.ref h.objs.size,.none,.none,.none,.bool false,.none] }:Obj):=by heap_get
  have hcC:(Value.ref 51::[.ref 31,.type "Exception",.type "BaseException",.type "object"]).contains (.ref 51)=true:=by simp
  unfold isInstance
  repeat (first|with_reducible refine wpAny_loadPart_at hget ?_|wp_step)
  refine wpAny_isSubtype_exc hC₁ ?_
  rw [hcC]
  repeat wp_step
  show wpAny _ _ (typeLookup (.ref 51) _) _ _ _
  refine wpAny_typeLookup_tail (C:=51) hC₁ (hn.keeps up) (T.keeps up) Fn.mroIs Fn.init.lookup ?_
  rw [i51]
  refine wpAny_holding (wpAny_bind ?_)
  unfold bindSpecial
  refine wpAny_bind (wpAny_typeOf (T := "function") ⟨_,hI₁,rfl⟩ ?_)
  rw [if_pos (by decide)]
  refine wpAny_pure (wpAny_bind (wpAny_mono (hq _ (h.objs.size+1) ⟨up,Heap.get?_none_of_le (Nat.le_succ _),h.objs.size,hget,Heap.get?_none_of_le (Nat.le_refl _),Heap.get?_push_of_some _ (Heap.get?_push_at rfl rfl)⟩) (fun r s' hr=>?_) fun _ _ x=>x))
  obtain ⟨rfl,hQ⟩:=hr
  wp_walk
  exact hQ
theorem Zd3 {s b Q}:@U6 prog w A E s b Q:=ZN (k:=U5) rfl WZ (dC |>.sd (gt dC.d [prog]) |>.sc (gt dC.c [w]) |>.se (gt dC.e [A]) |>.sg (gt dC.g [E,Q]) |>.sf (gt dC.f [s]) |>.sp (gt dC.p [b]))
end
end
theorem rw7:True:=by
  walk_at "RST"
  walk_at "G slE"
  trivial
section
variable {w:World}{A:Around}{E:Value→Shared→Prop}{s:Shared}{h₀:Heap}{L e:Addr}{m:Str→Option Value}{news:List (Addr×Obj)}{vs:Array Value}{v:Value}
theorem Zbc {Q:Unit→Shared→Prop}(F:Fr h₀ L s.heap m)(X₀:(K w.params).In h₀)(N:News h₀ L s.heap ((e,Zp none vs)::news))(D:Za ((e,Zp none vs)::news))
    (h:∀ (d:Nat) h' hsh tk,Fr h₀ L h' m→News h₀ L h' ((d,dictOf [⟨hsh,.str ball tk,v⟩] 1)::(e,Zp (some d) vs)::news)→Za ((d,dictOf [⟨hsh,.str ball tk,v⟩] 1)::(e,Zp (some d) vs)::news)→Q () {s with heap:=h',toks:=s.toks+2}) :
    wpAny (model PR w) A (setAttr (.ref e) ball v) Q E s:=by
  obtain ⟨n1,n2,n3⟩:=N _ (.head _)
  refine ZeE (X₀.keeps F.keep) n1 fun h' hsh tk k ke kd=>?_
  have ne:∀ q∈news,q.1≠e:=fun q hq z=>(List.nodup_cons.mp D).1 (by
    show e∈_
    rw [← z]
    exact List.mem_map_of_mem hq)
  have fresh:h₀.get? s.heap.objs.size=none:=by
    cases q:h₀.get? s.heap.objs.size with
    | none=>rfl
    | some o=>exact absurd (Heap.lt_size (F.keep _ _ q)) (Nat.lt_irrefl _)
  have hL:s.heap.objs.size≠L:=by
    obtain ⟨o,es,ep,ho,_⟩:=F.ns
    exact Nat.ne_of_gt (Heap.lt_size ho)
  refine h s.heap.objs.size h' hsh tk ⟨?_,fun b o q=>k b o (fun z=>by rw [z,n3] at q;cases q) (F.keep b o q),F.above⟩ ?_ ?_
  · obtain ⟨o,es,ep,ho,r⟩:=F.ns
    exact ⟨o,es,ep,k _ _ (fun z=>n2 z.symm) ho,r⟩
  · intro q hq
    rcases List.mem_cons.mp hq with rfl|hq
    · exact ⟨kd,hL,fresh⟩
    · rcases List.mem_cons.mp hq with rfl|hq
      · exact ⟨ke,n2,n3⟩
      · obtain ⟨a1,a2,a3⟩:=N q (.tail _ hq)
        exact ⟨k _ _ (ne q hq) a1,a2,a3⟩
  · refine Za.cons ⟨Heap.lt_size n1,allLt_of fun q hq=>Heap.lt_size (N q (.tail _ hq)).1⟩ (D.of rfl)
end
theorem rw8:True:=by
  k_with "setAttr ref" =>(k_here;k_dflt (refine' Zbc ?F ?X ?N ?D ?_;(case F=>k_asm);(case X=>k_asm);(case N=>k_asm);(case D=>ktr_unf));intro d' h' hsh' tk' F' N' D')
  trivial
section
variable {w:World}{p:Program}{loose:List Str}{mean:ExcName→Option Value}{mg mb:Str→Option Value}
   {dp un:Nat}{gd:Option (List Code)}{cn:Str}{cs:Scope}{a:Addr}{ccd:Value}{cl:List (Str×Addr)}{outer:List Env}{A₀:Around}{base h₀:Heap}{L:Addr}{m:Str→Option Value}{s:Shared}{Q E:Value→Shared→Prop}
   (B:Below A₀ base outer h₀)(F:Fr h₀ L s.heap m)(X:(K w.params).In h₀)(T:Top p loose mean mg mb h₀)(hk:cs.kind = .function)
include B F X T hk
theorem Zf4 {b:Value}{news:List (Addr×Obj)}(N:News h₀ L s.heap news)(D:Za news)(hdp:dp+10<recursionLimit)(hun:un+40<cLine)
   (ret:∀ (e d t:Nat)(hsh:Int)(tk:Tok)(h':Heap)(tk':Nat),Fr h₀ L h' m→News h₀ L h' ((d,dictOf [⟨hsh,.str ball tk,b⟩] 1)::(e,Zp (some d) #[.ref t,.none,.none,.none,.bool false,.none])::news)→Za ((d,dictOf [⟨hsh,.str ball tk,b⟩] 1)::(e,Zp (some d) #[.ref t,.none,.none,.none,.bool false,.none])::news)→Q (.ref e) {s with heap:=h',toks:=tk'}) :
   wpAny (model PR w) (ktrTop dp un gd cn cs L a ccd cl outer) (call (.ref 51) [b]) Q E s:=by
  refine Zd3 (X.keeps F.keep) fun h₁ e hm=>?_
  obtain ⟨t,he,htn,ht⟩:=hm.there
  have F₁:Fr h₀ L h₁ m:=⟨by obtain ⟨o,es,ep,ho,r⟩:=F.ns;exact ⟨o,es,ep,hm.keeps _ _ ho,r⟩,fun b o q=>hm.keeps _ _ (F.keep b o q),F.above⟩
  have N₁:News h₀ L h₁ ((e,Zp none #[.ref t,.none,.none,.none,.bool false,.none])::news):=fun q hq=>by
    rcases List.mem_cons.mp hq with rfl|hq
    · exact News.more F₁ News.nil he (fun es n z=>nomatch z) (kts_none F.keep hm.new) _ (.head _)
    · obtain ⟨a1,a2,a3⟩:=N q hq
      exact ⟨hm.keeps _ _ a1,a2,a3⟩
  have D₁:Za ((e,Zp none #[.ref t,.none,.none,.none,.bool false,.none])::news):=by
    refine List.nodup_cons.mpr ⟨fun q=>?_,D⟩
    obtain ⟨p,hp,z⟩:=List.mem_map.mp q
    have h1:=(N p hp).1
    have h2:=hm.new
    have z:p.1=e:=z
    rw [z,h2] at h1
    cases h1
  clear hm he ht htn N D F
  have T₁:=T
  refine wpAny_call ?_
  k_dflt cell_enter
  k_steps
  exact ret _ _ _ _ _ _ _ (by k_asm) (by k_asm) (by assumption)
end
section
open PySem PySem.W PySem.Calls PySem.Spec PyProof.Rows PyProof.V
open Builtin Builtin.ObjectAttr
set_option autoImplicit false
section
variable {prog:Program}{w:World}{A:Around}{E:Value→Shared→Prop}{s:Shared}
theorem Zl3 (P:Params):findIn (K P) (.ref 51) "__getattribute__" = some (some (.builtin "BaseException.__getattribute__")):=by kernel_rfl
theorem Zl2 (P:Params):findIn (K P) (.ref 51) "__getattr__" = some none:=by kernel_rfl
theorem Zgs (self:Value)(name:Str)(tk:Tok):Builtin.«object.__getattribute__» ⟨[self,.str name tk],[]⟩=(typeOf self >>= fun tp=>find self tp name >>= fun r=>match r with
    | .value v=>ret v
    | .bind g a=>bindTo g a self tp
    | .missing=>do
      if tp == .type "module" then
        if ← isOpaqueModuleObj self then
          let byTheModulesOwnEntry:=match (← stack).drop 1 with
            | (.builtin "module.__getattribute__" ⟨m::_,_⟩,_)::_=>m==self
            | _=>false
          if !byTheModulesOwnEntry then unsupported "thirdparty:object.__getattribute__:a-miss-on-an-opaque-module"
      if tp == .type "type" then
        if let some key ← opaqueClassAbove self then unsupported s!"thirdparty:{key.toString}.{name.toString}:object.__getattribute__-misses-on-an-opaque-class"
      noSuchAttribute self name):=by kernel_rfl
theorem Zcx {e:Addr}{oe od:Obj}{v:Value}{expr:Bool}{Q:Value→Shared→Prop}(X:(K w.params).In s.heap)(I:InstAt s.heap e oe 51 (some od))(hl:lookIn ball od=some (some v))(hh:handedIn v=true)
    (h:Q v {s with toks:=s.toks+1}):wpAny (model prog w) A (getAttr (.ref e) ball expr) Q E s:=by
  obtain ⟨cd,hc,hdi,hmro⟩:=Zd5 w.params
  have hf:findObj (K w.params) 51 (some od) ball=some (.value v):=by
    unfold findObj
    rw [hc,Option.bind_some,Zed,Option.bind_some]
    have ho:W.ownOf cd (some od) ball=some (some v):=by unfold W.ownOf;rw [if_pos hdi];exact hl
    simp [ho]
  obtain ⟨hp,g,d,t,os⟩:=s
  have L0:=I.type (M:=model prog w)
  have L1:=looks_findIn (M:=model prog w) X (Zl3 _)
  have L2:=looks_findIn (M:=model prog w) X (Zl2 _)
  have L3:=looks_find (M:=model prog w) X I hf
  have FB:=PySem.F.attr_Exception
  have sub:Looks (model prog w) hp (isInstance (.ref e) (.type "BaseException")) true:=L0.andThen (looks_mroIn X (by unfold mroIn;rw [hc,Option.bind_some,hmro];decide +kernel))
  unfold getAttr getAttrBy
  refine wpAny_bind (wpAny_mkText (wpAny_holding (wpAny_bind (L0.at (wpAny_bind (L1.at ?_))))))
  dsimp only
  rw [if_neg (by decide +kernel)]
  unfold getAttrByItsOwn hookBefore
  rw [show onTheHeap (.ref 51)=true from rfl,if_pos rfl]
  refine wpAny_bind (L2.at (wpAny_bind (wpAny_attempt (wpAny_holding ?_))))
  unfold callGetattribute
  rw [show (expr&&onTheHeap (Value.builtin "BaseException.__getattribute__"))=false by cases expr <;> rfl,if_neg Bool.false_ne_true]
  unfold boundAndCalled
  rw [FB.ga.bind]
  refine wpAny_bind (wpAny_pure (wpAny_call ?_))
  refine codeAny_call_builtin FB.ga.plain F.entry_bexc_ga (@check_slot (model prog w) _ _ ⟨hp,g,d,t+1,os⟩ "BaseException.__getattribute__" "BaseException" "__getattribute__" (.ref e) [.str ball t] [] _ (by decide +kernel) (by decide +kernel) sub (F.args_bexc_ga _ _) ?_)
  rw [show ([Value.ref e]++[Value.str ball t]:List Value)=[.ref e,.str ball t] from rfl,Zgs]
  refine wpAny_bind (L0.at (wpAny_bind (L3.at (wpAny_pure ?_))))
  show wpAny _ _ (handedOut v) _ _ _
  rw [handedOut_of hh]
  exact wpAny_pure h
noncomputable def Raisable51 (P:Params)(E:Value→Shared→Prop)(v:Value)(s₁:Shared):Prop:=∃ a d vs,v = .ref a∧(K P).In s₁.heap∧s₁.heap.get? a=some (Zp d vs)∧vs[1]? = some .none∧E (.ref a) s₁
theorem Ww {env:Env}{e:Expr}{pos:Pos}{Q:Flow→Shared→Prop}(hh:A.handled=none)(h:wpAny (model prog w) A (eval e env) (Raisable51 w.params E) E s):wpAny (model prog w) A (exec (.Raise (some e) none pos) env) Q E s:=by
  show wpAny _ A (do standAt pos;raiseStmt env (some (do let v ← eval e env;standAt pos;pure v)) none) Q E s
  refine wpAny_bind (wpAny_standAt ?_)
  unfold raiseStmt
  dsimp only
  refine wpAny_bind (wpAny_bind (wpAny_mono h (fun v s₁ h₁=>wpAny_bind (wpAny_standAt (wpAny_pure ?_))) fun _ _ x=>x))
  obtain ⟨a,d,vs,rfl,X,ha,h1,hE⟩:=h₁
  obtain ⟨cd,hc,hdi,hmro⟩:=Zd5 w.params
  have I:InstAt s₁.heap a (Zp d vs) 51 (d.bind s₁.heap.get?)→True:=fun _=>trivial
  have L0:Looks (model prog w) s₁.heap (typeOf (.ref a)) (.ref 51):=(Looks.ld ha).andThen .now
  have sub:Looks (model prog w) s₁.heap (isInstance (.ref a) (.type "BaseException")) true:=L0.andThen (looks_mroIn X (by unfold mroIn;rw [hc,Option.bind_some,hmro];decide +kernel))
  have hC:s₁.heap.get? 51=some (o51 w.params):=X 51 _ rfl
  have L5:Looks (model prog w) s₁.heap (typeOf (.ref 51)) (.type "type"):=(Looks.ld hC).andThen .now
  have hnt:∀ {Q':Bool→Shared→Prop},Q' false s₁→wpAny (model prog w) A (isType (.ref a)) Q' E s₁:=by
    intro Q' hq
    simp only [isType,loadHead]
    exact wpAny_bind (wpAny_loadPart ha (wpAny_pure hq))
  refine wpAny_bind (wpAny_pure ?_)
  dsimp only
  refine wpAny_bind (wpAny_holding ?_)
  unfold excFromValue isExcClass
  refine wpAny_bind (wpAny_bind (hnt ?_))
  simp only [Bool.false_eq_true,if_false]
  refine wpAny_pure ?_
  simp only [Bool.false_eq_true,if_false]
  refine wpAny_bind (sub.here ?_)
  simp only [if_true]
  refine wpAny_pure ?_
  refine wpAny_bind (hnt ?_)
  simp only [Bool.false_eq_true,if_false]
  unfold raisedInstance
  refine wpAny_bind (wpAny_bind (L0.here (wpAny_bind (L5.here ?_))))
  rw [if_pos (by decide)]
  refine wpAny_pure ?_
  unfold setFlight raiseNew
  refine wpAny_bind (wpAny_bind (wpAny_field ha rfl h1 ?_))
  rw [if_neg (by decide)]
  refine wpAny_pure (wpAny_bind (wpAny_handled ?_))
  rw [hh]
  first
    | exact wpAny_throw hE
    | exact wpAny_bind (wpAny_pure (wpAny_throw hE))
theorem GP {P:Params}{h₀:Heap}{L e:Addr}{m:Str→Option Value}{news:List (Addr×Obj)}{d:Option Addr}{vs:Array Value}(F:Fr h₀ L s.heap m)(X₀:(K P).In h₀)(N:News h₀ L s.heap news)(hm:(e,Zp d vs)∈news)(h1:vs[1]? = some .none)(h:E (.ref e) s) :
    Raisable51 P E (.ref e) s:=⟨e,d,vs,rfl,X₀.keeps F.keep,(N _ hm).1,h1,h⟩
end
section
variable {M:Model}{A:Around}{E:Value→Shared→Prop}{s':Shared}{base g:Heap}{outer:List Env}{L a e d:Addr}{m:Str→Option Value}{name:Str}{scope:Scope}{cd:Value}{cl:List (Str×Addr)}{news rest:List (Addr×Obj)}
theorem Zbn {Q:Unit→Shared→Prop}{vs:Array Value}{a0:Value}(K:Below A base outer g)(F:Fr g L s'.heap m)(N:News g L s'.heap news)(D:Za news)(P:Tk [(e,Zp (some d) vs)] news rest)(h1:vs[1]? = some .none)(h0:vs[0]? = some a0)
    (hQ:∀ h',RaisedD base g outer e (.ref 51) d rest h'→g.UpToSlots h'→Q () {s' with heap:=h'}) (hk:scope.kind = .function) :
    wpAny M (A.deeper (envX name scope L a cd cl)) (leaving (envX name scope L a cd cl) (.ref e)) Q E s' :=
  Wa K F (Ze N P.perm) (fun q hq z=>by
    have D':=List.nodup_cons.mp (D.perm P.perm)
    refine D'.1 ?_
    show e∈_
    rw [← z]
    exact List.mem_map_of_mem hq) rfl rfl rfl h1 h0 hQ hk
end
end
theorem rw9:True:=by
  walk_at "RST"
  walk_at "G slE"
  k_with "ktr_unf" =>first|assumption|(refine Za.of (by assumption) ?_;first|rfl|(simp only [List.map_append,List.map_cons];done))
  trivial
theorem J3 {h₀:Heap}{L:Addr}{I:Addr}{o:Obj}{rest:(Str→Option Value)→List (Addr×Obj)→Prop}{s₁:Shared}{h':Heap}{tk:Nat}{m':Str→Option Value}{all news':List (Addr×Obj)}(F:Fr h₀ L h' m')(N:News h₀ L h' all)(D:Za all)(P:Tk [(I,o)] all news')
    (r:Za ((I,o)::news')→rest m' news'):UnrEndW h₀ L s₁ [(I,o)] rest {s₁ with heap:=h',toks:=tk}:=by
  have D':Za ((I,o)::news'):=D.perm P.perm
  refine ⟨h',tk,m',news',rfl,F,Ze N P.perm,fun p hp q hq e=>?_,r D'⟩
  rw [List.mem_singleton.mp hq] at e
  refine (List.nodup_cons.mp D').1 ?_
  show I∈_
  rw [← (show p.1=I from e)]
  exact List.mem_map_of_mem hp
noncomputable def Zl6:Obj:={cls :=.none}
theorem VP {I:Addr}{news:List (Addr×Obj)}(l:∀ p∈news,p.1<I)(D:Za news):Za ((I,Zl6)::news):=Za.cons (allLt_of l) D
theorem Y0 {h₀ h:Heap}{L:Addr}{p:Addr×Obj}{l:List (Addr×Obj)}(_:News h₀ L h l)(D:Za (p::l)):Za l:=(List.nodup_cons.mp D).2
theorem VE {h₀ h:Heap}{L:Addr}{a b:Addr×Obj}{l S T rest r₁ r₂ j:List (Addr×Obj)}(N:News h₀ L h l)(x:Tk (a::b::S) l r₁)(y:ExtA T r₁ r₂)(z:ExtA rest r₂ j):News h₀ L h (a::b::(S++((j++T)++rest))):=Zci N x y z
theorem VN {a b:Addr×Obj}{l S T rest r₁ r₂ j:List (Addr×Obj)}(D:Za l)(x:Tk (a::b::S) l r₁)(y:ExtA T r₁ r₂)(z:ExtA rest r₂ j):Za (a::b::(S++((j++T)++rest))):=Zd4 D x y z
theorem Zx {α:Type}{l l':List α}{i:Nat}{x:α}(p:l<+:l')(h:l[i]? = some x):l'[i]? = some x:=by
  obtain ⟨t,rfl⟩:=p
  rw [List.getElem?_append_left (List.getElem?_eq_some_iff.mp h).1]
  exact h
theorem ZnW:True:=by
  k_with "exec For Name Name cons nil" =>(k_here;(rename Fr _ _ _ _=>lF');(with_unfolding_all refine' For_turns lF' ?_;k_whole))
  k_with "exec For Name Call cons nil" =>(k_here;(rename Fr _ _ _ _=>lF');(with_unfolding_all refine' For_turns lF' ?_;k_whole))
  k_with "pyIter ref" =>(k_here;(with_reducible show wpAny _ _ (pyIter (Value.ref _)) (fun it s₂=>TurnsAt _ _ _ _ _ _ _ _ _ it s₂) _ _);first|(with_unfolding_all refine' iter_tupTurns ?hh ?F ?N ?m ?c ?d ?_;(case hh=>with_unfolding_all rfl);(case F=>k_asm);(case N=>k_asm);(case m=>k_mem);(case c=>exact rfl);(case d=>exact rfl);intro I' l1;(have lI':=VP l1 (by ktr_unf));clear l1;dsimp only [List.map])|(with_unfolding_all refine' iter_listTurns ?hh ?F ?N ?m ?c ?d ?_;(case hh=>with_unfolding_all rfl);(case F=>k_asm);(case N=>k_asm);(case m=>k_mem);(case c=>exact rfl);(case d=>exact rfl);intro I' l1;(have lI':=VP l1 (by ktr_unf));clear l1;dsimp only [List.map]))
  k_with "ItemsRest" =>first|((with_unfolding_all refine' ItemsRest.val ?_);intro h' tk' F';(refine AllObj.cons (fun o' hc'=>?_));(refine AllObj.nil (fun N'=>?_));dsimp only [List.cons_append,List.nil_append] at N';clear hc')|((with_unfolding_all refine' ItemsRest.zero ?_);intro h' tk' F' N';have lD':=Y0 N' (by assumption))
  k_with "UnrEndW" =>(k_dflt (refine' J3 ?uF ?uN ?uD ?uP ?_;(case uF=>k_asm);(case uN=>k_asm);(case uD=>ktr_unf);(case uP=>ktr_rel));intro lI';(refine ⟨And.intro (by k_mem) trivial,?_⟩);(try dsimp only))
  k_with "call ref" =>(k_here;k_dflt (refine' ZW ?B ?F ?X ?N ?T ?hk ?P ?S ?D ?m1 ?m2 ?hb ?hd ?hu ?_;(case B=>k_asm);(case F=>k_asm);(case X=>k_asm);(case N=>k_asm);(case T=>k_asm);(case hk=>first|exact rfl|assumption);(case S=>k_asm);(case P=>ktr_rel);(case D=>ktr_unf);(case m1=>k_mem);(case m2=>k_mem);(case hb=>tb_start);(case hd=>ktr_room);(case hu=>ktr_units));intro i' t' TX' S' h' tk' hi' pre' len' hS' F' N' D';(try dsimp only at N' D');(try dsimp only))
  k_with "call ref" =>(k_here;k_dflt (refine' VK ?B ?F ?X ?T ?hk ?N ?P ?S ?D ?m1 ?m2 ?hb ?hd ?hu ?_;(case B=>k_asm);(case F=>k_asm);(case X=>k_asm);(case N=>k_asm);(case T=>k_asm);(case hk=>first|exact rfl|assumption);(case S=>k_asm);(case P=>ktr_rel);(case D=>ktr_unf);(case m1=>k_mem);(case m2=>k_mem);(case hb=>tb_start);(case hd=>ktr_room);(case hu=>ktr_units));intro i' t' FN' S' h' tk' hi' pre' len' hS' F' N' D';(try dsimp only at N' D');(try dsimp only))
  k_with "call ref" =>(k_here;k_dflt (refine' ZQ ?B ?F ?X ?T ?hk ?N ?P ?S ?D ?m1 ?m2 ?hb ?hb' ?hd ?hu ?_;(case B=>k_asm);(case F=>k_asm);(case X=>k_asm);(case N=>k_asm);(case T=>k_asm);(case hk=>first|exact rfl|assumption);(case S=>k_asm);(case P=>ktr_rel);(case D=>ktr_unf);(case m1=>k_mem);(case m2=>k_mem);(case hb=>tb_start);(case hb'=>tb_start);(case hd=>ktr_room);(case hu=>ktr_units));intro i' t' ia' TX' FN' S' h' tk' hia' hi' pre' len' pref' lenf' hS' F' N' D';(try dsimp only at N' D');(try dsimp only))
  k_with "call ref" =>(k_here;k_dflt (refine' Zf4 ?B ?F ?X ?T ?hk ?N ?D ?hd ?hu ?_;(case B=>k_asm);(case F=>k_asm);(case X=>k_asm);(case N=>k_asm);(case T=>k_asm);(case hk=>first|exact rfl|assumption);(case D=>ktr_unf);(case hd=>ktr_room);(case hu=>ktr_units));intro e' d' t' hsh' tk' h' tkk' F' N' D';(try dsimp only at N' D');(try dsimp only))
  trivial
section
variable {w:World}{p:Program}{loose:List Str}{mean:ExcName→Option Value}{mg mb:Str→Option Value}
   {dp un:Nat}{gd:Option (List Code)}{cn:Str}{cs:Scope}{a:Addr}{ccd:Value}{cl:List (Str×Addr)}{outer:List Env}{A₀:Around}{base h₀:Heap}{L:Addr}{m:Str→Option Value}{s:Shared}{Q E:Value→Shared→Prop}
   (B:Below A₀ base outer h₀)(F:Fr h₀ L s.heap m)(X:(K w.params).In h₀)(T:Top p loose mean mg mb h₀)(hk:cs.kind = .function)
include B F X T hk
@[reducible] noncomputable def ZX (i:Int):W.Dat :=.tuple [.str (.ofString "a"),.int i]
@[reducible] noncomputable def UZ (i:Int):W.Dat :=.tuple [.str (.ofString "i"),.int i]
@[reducible] noncomputable def YU (f:Int)(ds:List W.Dat):W.Dat :=.tuple [.str (.ofString "s"),.int f,.tuple ds]
@[reducible] noncomputable def Zlv (f:Int)(ds:List W.Dat):W.Dat:=YU 16 [YU f ds,ZX 25]
noncomputable def ZG (TX:List Str)(FN:List (Int×Int))(name:Str)(args:List W.Dat)(dd:W.Dat):Prop :=
  ∃ (i0 f:Nat),TX[i0]? = some name∧FN[f]? = some ((i0:Int),(args.length:Int))∧dd=Zlv f args
noncomputable def Zv (TX:List Str)(x:Str)(d:W.Dat):Prop:=∃ i:Nat,TX[i]? = some x∧d=ZX i
omit B F X T hk
noncomputable def VY {sym sd tl an fl fn n ct nt:Nat}{jy:Hs}{tx:Tok}{x:Str}{cvs:List Value}{dc:W.Dat}{TX:List Str}{FN:List (Int×Int)}{S TT news rest:List (Addr×Obj)}:Prop:=∀ (B:Below A₀ base outer h₀)(F:Fr h₀ L s.heap m)(X:(K w.params).In h₀)(T:Top p loose mean mg mb h₀)(hk:cs.kind = .function)(N:News h₀ L s.heap news)(P:Tk (S++TT) news rest)(hS:Zh w tl an fl fn TX FN S)(D:Za news)(hm1:(sym,instObj 154 sd)∈rest)(hm2:(sd,Zq jy tl an fl fn n)∈rest)(hc:(ct,({cls :=.type "tuple",data :=.seq cvs.toArray nt}:Obj))∈TT)(hcd:W.DatIn TT (.ref ct) dc)(hb:TX.length<40000)(hb':FN.length<40000)(hdp:dp+25<recursionLimit)(hun:un+120<cLine)(ret:∀ (e d t bv:Nat)(hsh:Int)(tk:Tok)(TX':List Str)(FN':List (Int×Int))(S' TT':List (Addr×Obj))(d1 dd:W.Dat)(h':Heap)(tk':Nat),Zh w tl an fl fn TX' FN' S'→Fr h₀ L h' m→News h₀ L h' ((d,dictOf [⟨hsh,.str ball tk,.ref bv⟩] 1)::(e,Zp (some d) #[.ref t,.none,.none,.none,.bool false,.none])::(S'++(TT'++rest)))→Za ((d,dictOf [⟨hsh,.str ball tk,.ref bv⟩] 1)::(e,Zp (some d) #[.ref t,.none,.none,.none,.bool false,.none])::(S'++(TT'++rest))) →
      W.DatIn TT' (.ref bv) dd→(∀ p∈TT,p∈TT')→Zv TX' x d1→ZG TX' FN' (.ofString "type_error") [d1,dc] dd→TX<+:TX'→TX'.length≤TX.length+2→FN<+:FN'→FN'.length≤FN.length+1→Q (.ref e) {s with heap:=h',toks:=tk'}),
   wpAny (model PR w) (ktrTop dp un gd cn cs L a ccd cl outer) (call (.ref 207) [.ref sym,.str x tx,.ref ct]) Q E s
noncomputable def Yo (c:Zf):Prop:=@cF _ (@VY) c (c.a 4) (c.a 5) (c.a 6) (c.a 7) (c.a 8) (c.a 9) (c.a 10) (c.a 11) (c.a 12) (c.vj 0) (c.o 0) (c.n 1) (c.u 0) (c.vb 0) (c.h 1) (c.t 0) (c.b 0) (c.b 1) (c.b 2) (c.b 3)
noncomputable def VX:Zf:=ZM Zj Yo
theorem Gw:Yo VX:=by
  delta Yo cF
  k_extra "gS"
  exists Zf.h _ _,TX
  exists Zf.a _ _,sym,sd,tl,an,fl,fn,n,ct,nt
  exists Zf.n _ _,x
  exists Zf.vj _ _,jy
  exists Zf.o _ _,tx
  exists Zf.u _ _,cvs
  exists Zf.vb _ _,dc
  exists Zf.t _ _,FN
  exists Zf.b _ _,S,TT,news,rest
  intro B F X T hk N P hS D hm1 hm2 hc hcd hb hb' hdp hun ret
  delta Zq at *
  have N₁:=Ze N P.perm
  have D₁:=D.perm P.perm
  rw [List.append_assoc] at N₁ D₁
  refine wpAny_call ?_
  k_dflt cell_enter
  k_steps
  exact ret _ _ _ _ _ _ _ _ _ _ _ _ _ _ (by assumption) (by k_asm) (VE (T:=TT) (rest:=rest) (by k_asm) (by ktr_rel) (by ktr_rel) (by ktr_rel)) (VN (T:=TT) (rest:=rest) (by assumption) (by ktr_rel) (by ktr_rel) (by ktr_rel))
    (by kqd_in) (fun p hp=>List.mem_append_right _ hp) ⟨_,Zx (by assumption) (by assumption),rfl⟩ ⟨_,_,by assumption,by assumption,rfl⟩ (List.IsPrefix.trans (by assumption) (by assumption)) (by tb_start) (by assumption) (by assumption)
theorem ZaY {sym sd tl an fl fn n ct nt jy tx x cvs dc TX FN S TT news rest}:@VY w p loose mean mg mb dp un gd cn cs a ccd cl outer A₀ base h₀ L m s Q E sym sd tl an fl fn n ct nt jy tx x cvs dc TX FN S TT news rest:=ZN (k:=VX) rfl Gw (cS w p loose mean mg mb m gd cn cs ccd cl outer A₀ base h₀ s Q E |>.sh (gt dC.h [loose,TX]) |>.sa (gt dC.a [dp,un,a,L,sym,sd,tl,an,fl,fn,n,ct,nt]) |>.sn (gt dC.n [cn,x]) |>.svj (gt dC.vj [jy]) |>.so (gt dC.o [tx]) |>.su (gt dC.u [cvs]) |>.svb (gt dC.vb [dc]) |>.st (gt dC.t [FN]) |>.sb (gt dC.b [S,TT,news,rest]))
include B F X T hk
end
theorem ZnV:True:=by
  walk_at "RST"
  walk_at "G slE"
  k_with "ktr_unf" =>first|assumption|(refine Za.of (by assumption) ?_;first|rfl|(simp only [List.map_append,List.map_cons];done))
  k_with "exec For Name Name cons nil" =>(k_here;(rename Fr _ _ _ _=>lF');(with_unfolding_all refine' For_turns lF' ?_;k_whole))
  k_with "exec For Name Call cons nil" =>(k_here;(rename Fr _ _ _ _=>lF');(with_unfolding_all refine' For_turns lF' ?_;k_whole))
  k_with "pyIter ref" =>(k_here;(with_reducible show wpAny _ _ (pyIter (Value.ref _)) (fun it s₂=>TurnsAt _ _ _ _ _ _ _ _ _ it s₂) _ _);first|(with_unfolding_all refine' iter_tupTurns ?hh ?F ?N ?m ?c ?d ?_;(case hh=>with_unfolding_all rfl);(case F=>k_asm);(case N=>k_asm);(case m=>k_mem);(case c=>exact rfl);(case d=>exact rfl);intro I' l1;(have lI':=VP l1 (by ktr_unf));clear l1;dsimp only [List.map])|(with_unfolding_all refine' iter_listTurns ?hh ?F ?N ?m ?c ?d ?_;(case hh=>with_unfolding_all rfl);(case F=>k_asm);(case N=>k_asm);(case m=>k_mem);(case c=>exact rfl);(case d=>exact rfl);intro I' l1;(have lI':=VP l1 (by ktr_unf));clear l1;dsimp only [List.map]))
  k_with "ItemsRest" =>first|((with_unfolding_all refine' ItemsRest.val ?_);intro h' tk' F';(refine AllObj.cons (fun o' hc'=>?_));(refine AllObj.nil (fun N'=>?_));dsimp only [List.cons_append,List.nil_append] at N';clear hc')|((with_unfolding_all refine' ItemsRest.zero ?_);intro h' tk' F' N';have lD':=Y0 N' (by assumption))
  k_with "UnrEndW" =>(k_dflt (refine' J3 ?uF ?uN ?uD ?uP ?_;(case uF=>k_asm);(case uN=>k_asm);(case uD=>ktr_unf);(case uP=>ktr_rel));intro lI';(refine ⟨And.intro (by k_mem) trivial,?_⟩);(try dsimp only))
  k_with "call ref" =>(k_here;k_dflt (refine' ZW ?B ?F ?X ?N ?T ?hk ?P ?S ?D ?m1 ?m2 ?hb ?hd ?hu ?_;(case B=>k_asm);(case F=>k_asm);(case X=>k_asm);(case N=>k_asm);(case T=>k_asm);(case hk=>first|exact rfl|assumption);(case S=>k_asm);(case P=>ktr_rel);(case D=>ktr_unf);(case m1=>k_mem);(case m2=>k_mem);(case hb=>tb_start);(case hd=>ktr_room);(case hu=>ktr_units));intro i' t' TX' S' h' tk' hi' pre' len' hS' F' N' D';(try dsimp only at N' D');(try dsimp only))
  k_with "call ref" =>(k_here;k_dflt (refine' VK ?B ?F ?X ?T ?hk ?N ?P ?S ?D ?m1 ?m2 ?hb ?hd ?hu ?_;(case B=>k_asm);(case F=>k_asm);(case X=>k_asm);(case N=>k_asm);(case T=>k_asm);(case hk=>first|exact rfl|assumption);(case S=>k_asm);(case P=>ktr_rel);(case D=>ktr_unf);(case m1=>k_mem);(case m2=>k_mem);(case hb=>tb_start);(case hd=>ktr_room);(case hu=>ktr_units));intro i' t' FN' S' h' tk' hi' pre' len' hS' F' N' D';(try dsimp only at N' D');(try dsimp only))
  k_with "call ref" =>(k_here;k_dflt (refine' ZQ ?B ?F ?X ?T ?hk ?N ?P ?S ?D ?m1 ?m2 ?hb ?hb' ?hd ?hu ?_;(case B=>k_asm);(case F=>k_asm);(case X=>k_asm);(case N=>k_asm);(case T=>k_asm);(case hk=>first|exact rfl|assumption);(case S=>k_asm);(case P=>ktr_rel);(case D=>ktr_unf);(case m1=>k_mem);(case m2=>k_mem);(case hb=>tb_start);(case hb'=>tb_start);(case hd=>ktr_room);(case hu=>ktr_units));intro i' t' ia' TX' FN' S' h' tk' hia' hi' pre' len' pref' lenf' hS' F' N' D';(try dsimp only at N' D');(try dsimp only))
  k_with "call ref" =>(k_here;k_dflt (refine' Zf4 ?B ?F ?X ?T ?hk ?N ?D ?hd ?hu ?_;(case B=>k_asm);(case F=>k_asm);(case X=>k_asm);(case N=>k_asm);(case T=>k_asm);(case hk=>first|exact rfl|assumption);(case D=>ktr_unf);(case hd=>ktr_room);(case hu=>ktr_units));intro e' d' t' hsh' tk' h' tkk' F' N' D';(try dsimp only at N' D');(try dsimp only))
  trivial
section
variable {w:World}{p:Program}{loose:List Str}{mean:ExcName→Option Value}{mg mb:Str→Option Value}
   {dp un:Nat}{gd:Option (List Code)}{cn:Str}{cs:Scope}{a:Addr}{ccd:Value}{cl:List (Str×Addr)}{outer:List Env}{A₀:Around}{base h₀:Heap}{L:Addr}{m:Str→Option Value}{s:Shared}{Q E:Value→Shared→Prop}
   (B:Below A₀ base outer h₀)(F:Fr h₀ L s.heap m)(X:(K w.params).In h₀)(T:Top p loose mean mg mb h₀)(hk:cs.kind = .function)
include B F X T hk
omit B F X T hk in
noncomputable def V8 {sym sd tl an fl fn n ct nt:Nat}{jy:Hs}{tx ty:Tok}{x y:Str}{cvs:List Value}{dc:W.Dat}{TX:List Str}{FN:List (Int×Int)}{S TT news rest:List (Addr×Obj)}:Prop:=∀ (B:Below A₀ base outer h₀)(F:Fr h₀ L s.heap m)(X:(K w.params).In h₀)(T:Top p loose mean mg mb h₀)(hk:cs.kind = .function)(N:News h₀ L s.heap news)(P:Tk (S++TT) news rest)(hS:Zh w tl an fl fn TX FN S)(D:Za news)(hm1:(sym,instObj 154 sd)∈rest)(hm2:(sd,Zq jy tl an fl fn n)∈rest)(hc:(ct,({cls :=.type "tuple",data :=.seq cvs.toArray nt}:Obj))∈TT)(hcd:W.DatIn TT (.ref ct) dc)(hb:TX.length<40000)(hb':FN.length<40000)(hdp:dp+25<recursionLimit)(hun:un+120<cLine)(ret:∀ (e d t bv:Nat)(hsh:Int)(tk:Tok)(TX':List Str)(FN':List (Int×Int))(S' TT':List (Addr×Obj))(d1 d2 dd:W.Dat)(h':Heap)(tk':Nat),Zh w tl an fl fn TX' FN' S'→Fr h₀ L h' m→News h₀ L h' ((d,dictOf [⟨hsh,.str ball tk,.ref bv⟩] 1)::(e,Zp (some d) #[.ref t,.none,.none,.none,.bool false,.none])::(S'++(TT'++rest)))→Za ((d,dictOf [⟨hsh,.str ball tk,.ref bv⟩] 1)::(e,Zp (some d) #[.ref t,.none,.none,.none,.bool false,.none])::(S'++(TT'++rest))) →
      W.DatIn TT' (.ref bv) dd→(∀ p∈TT,p∈TT')→Zv TX' x d1→Zv TX' y d2→ZG TX' FN' (.ofString "permission_error") [d1,d2,dc] dd→TX<+:TX'→TX'.length≤TX.length+3→FN<+:FN'→FN'.length≤FN.length+1→Q (.ref e) {s with heap:=h',toks:=tk'}),
   wpAny (model PR w) (ktrTop dp un gd cn cs L a ccd cl outer) (call (.ref 221) [.ref sym,.str x tx,.str y ty,.ref ct]) Q E s
noncomputable def Z1 (c:Zf):Prop:=@cF _ (@V8) c (c.a 4) (c.a 5) (c.a 6) (c.a 7) (c.a 8) (c.a 9) (c.a 10) (c.a 11) (c.a 12) (c.vj 0) (c.o 0) (c.o 1) (c.n 1) (c.n 2) (c.u 0) (c.vb 0) (c.h 1) (c.t 0) (c.b 0) (c.b 1) (c.b 2) (c.b 3)
omit B F X T hk in
noncomputable def V7 {sym sd tl an fl fn n:Nat}{jy:Hs}{tx:Tok}{x:Str}{TX:List Str}{FN:List (Int×Int)}{S TT news rest:List (Addr×Obj)}:Prop:=∀ (B:Below A₀ base outer h₀)(F:Fr h₀ L s.heap m)(X:(K w.params).In h₀)(T:Top p loose mean mg mb h₀)(hk:cs.kind = .function)(N:News h₀ L s.heap news)(P:Tk (S++TT) news rest)(hS:Zh w tl an fl fn TX FN S)(D:Za news)(hm1:(sym,instObj 154 sd)∈rest)(hm2:(sd,Zq jy tl an fl fn n)∈rest)(hb:TX.length<40000)(hb':FN.length<40000)(hdp:dp+25<recursionLimit)(hun:un+120<cLine)(ret:∀ (e d t bv:Nat)(hsh:Int)(tk:Tok)(TX':List Str)(FN':List (Int×Int))(S' TT':List (Addr×Obj))(d1 dd:W.Dat)(h':Heap)(tk':Nat),Zh w tl an fl fn TX' FN' S'→Fr h₀ L h' m→News h₀ L h' ((d,dictOf [⟨hsh,.str ball tk,.ref bv⟩] 1)::(e,Zp (some d) #[.ref t,.none,.none,.none,.bool false,.none])::(S'++(TT'++rest)))→Za ((d,dictOf [⟨hsh,.str ball tk,.ref bv⟩] 1)::(e,Zp (some d) #[.ref t,.none,.none,.none,.bool false,.none])::(S'++(TT'++rest))) →
      W.DatIn TT' (.ref bv) dd→(∀ p∈TT,p∈TT')→Zv TX' x d1→ZG TX' FN' (.ofString "representation_error") [d1] dd→TX<+:TX'→TX'.length≤TX.length+2→FN<+:FN'→FN'.length≤FN.length+1→Q (.ref e) {s with heap:=h',toks:=tk'}),
   wpAny (model PR w) (ktrTop dp un gd cn cs L a ccd cl outer) (call (.ref 228) [.ref sym,.str x tx]) Q E s
noncomputable def Z0 (c:Zf):Prop:=@cF _ (@V7) c (c.a 4) (c.a 5) (c.a 6) (c.a 7) (c.a 8) (c.a 9) (c.a 10) (c.vj 0) (c.o 0) (c.n 1) (c.h 1) (c.t 0) (c.b 0) (c.b 1) (c.b 2) (c.b 3)
noncomputable def Ys:Zf:=ZM Zj fun c=>Z1 c∧Z0 c
omit B F X T hk in
theorem GU:Z1 Ys:=by
  delta Z1 cF
  k_extra "gS"
  exists Zf.h _ _,TX
  exists Zf.a _ _,sym,sd,tl,an,fl,fn,n,ct,nt
  exists Zf.n _ _,x,y
  exists Zf.vj _ _,jy
  exists Zf.o _ _,tx,ty
  exists Zf.u _ _,cvs
  exists Zf.vb _ _,dc
  exists Zf.t _ _,FN
  exists Zf.b _ _,S,TT,news,rest
  intro B F X T hk N P hS D hm1 hm2 hc hcd hb hb' hdp hun ret
  delta Zq at *
  have N₁:=Ze N P.perm
  have D₁:=D.perm P.perm
  rw [List.append_assoc] at N₁ D₁
  refine wpAny_call ?_
  k_dflt cell_enter
  k_steps
  exact ret _ _ _ _ _ _ _ _ _ _ _ _ _ _ _ (by assumption) (by k_asm) (VE (T:=TT) (rest:=rest) (by k_asm) (by ktr_rel) (by ktr_rel) (by ktr_rel)) (VN (T:=TT) (rest:=rest) (by assumption) (by ktr_rel) (by ktr_rel) (by ktr_rel))
    (by kqd_in) (fun p hp=>List.mem_append_right _ hp) ⟨_,by first|assumption|exact Zx (by assumption) (by assumption)|exact Zx (by assumption) (Zx (by assumption) (by assumption)),rfl⟩ ⟨_,by first|assumption|exact Zx (by assumption) (by assumption)|exact Zx (by assumption) (Zx (by assumption) (by assumption)),rfl⟩ ⟨_,_,by assumption,by assumption,rfl⟩ (by first|assumption|exact List.IsPrefix.trans (by assumption) (by assumption)|exact List.IsPrefix.trans (by assumption) (List.IsPrefix.trans (by assumption) (by assumption))) (by tb_start) (by assumption) (by assumption)
omit B F X T hk in
theorem GO:Z0 Ys:=by
  delta Z0 cF
  k_extra "gS"
  exists Zf.h _ _,TX
  exists Zf.a _ _,sym,sd,tl,an,fl,fn,n
  exists Zf.n _ _,x
  exists Zf.vj _ _,jy
  exists Zf.o _ _,tx
  exists Zf.t _ _,FN
  exists Zf.b _ _,S,TT,news,rest
  intro B F X T hk N P hS D hm1 hm2 hb hb' hdp hun ret
  delta Zq at *
  have N₁:=Ze N P.perm
  have D₁:=D.perm P.perm
  rw [List.append_assoc] at N₁ D₁
  refine wpAny_call ?_
  k_dflt cell_enter
  k_steps
  exact ret _ _ _ _ _ _ _ _ _ _ _ _ _ _ (by assumption) (by k_asm) (VE (T:=TT) (rest:=rest) (by k_asm) (by ktr_rel) (by ktr_rel) (by ktr_rel)) (VN (T:=TT) (rest:=rest) (by assumption) (by ktr_rel) (by ktr_rel) (by ktr_rel))
    (by kqd_in) (fun p hp=>List.mem_append_right _ hp) ⟨_,by first|assumption|exact Zx (by assumption) (by assumption)|exact Zx (by assumption) (Zx (by assumption) (by assumption)),rfl⟩ ⟨_,_,by assumption,by assumption,rfl⟩ (by first|assumption|exact List.IsPrefix.trans (by assumption) (by assumption)|exact List.IsPrefix.trans (by assumption) (List.IsPrefix.trans (by assumption) (by assumption))) (by tb_start) (by assumption) (by assumption)
omit B F X T hk in
theorem YR:∀ c:Zf,Z1 c∧Z0 c:=ZN (k:=Ys) rfl ⟨GU,GO⟩
omit B F X T hk in
theorem Zbg {sym sd tl an fl fn n ct nt jy tx ty x y cvs dc TX FN S TT news rest}:@V8 w p loose mean mg mb dp un gd cn cs a ccd cl outer A₀ base h₀ L m s Q E sym sd tl an fl fn n ct nt jy tx ty x y cvs dc TX FN S TT news rest:=(YR (cS w p loose mean mg mb m gd cn cs ccd cl outer A₀ base h₀ s Q E |>.sh (gt dC.h [loose,TX]) |>.sa (gt dC.a [dp,un,a,L,sym,sd,tl,an,fl,fn,n,ct,nt]) |>.sn (gt dC.n [cn,x,y]) |>.svj (gt dC.vj [jy]) |>.so (gt dC.o [tx,ty]) |>.su (gt dC.u [cvs]) |>.svb (gt dC.vb [dc]) |>.st (gt dC.t [FN]) |>.sb (gt dC.b [S,TT,news,rest]))).1
omit B F X T hk in
theorem VB {sym sd tl an fl fn n jy tx x TX FN S TT news rest}:@V7 w p loose mean mg mb dp un gd cn cs a ccd cl outer A₀ base h₀ L m s Q E sym sd tl an fl fn n jy tx x TX FN S TT news rest:=(YR (cS w p loose mean mg mb m gd cn cs ccd cl outer A₀ base h₀ s Q E |>.sh (gt dC.h [loose,TX]) |>.sa (gt dC.a [dp,un,a,L,sym,sd,tl,an,fl,fn,n]) |>.sn (gt dC.n [cn,x]) |>.svj (gt dC.vj [jy]) |>.so (gt dC.o [tx]) |>.st (gt dC.t [FN]) |>.sb (gt dC.b [S,TT,news,rest]))).2
end
section
open PySem PySem.W PySem.Calls PySem.Spec PyProof.Rows PyProof.V
set_option autoImplicit false
@[reducible] noncomputable def Zk (tag v:Int)(t1 t2:Tok):Obj:={cls :=.type "tuple",data :=.seq [Value.int tag t1,Value.int v t2].toArray}
section
variable {prog:Program}{w:World}{A:Around}{E:Value→Shared→Prop}{s:Shared}{h₀:Heap}{L:Addr}{news:List (Addr×Obj)}{Q:Value→Shared→Prop}
open Classical in
theorem Gp {va vb:Value}{da db:W.Dat}(N:News h₀ L s.heap news)(ma:W.DatIn news va da)(mb:W.DatIn news vb db)(ka:kqdOk 9 da=true)(kb:kqdOk 9 db=true)(hu:A.units+64<cLine)
   (h:Q (.bool (decide (da=db))) s):wpAny (model prog w) A (compareOp .Eq va vb) Q E s:=by
  obtain ⟨as,ra⟩:=PySem.W.kqd_in N 9 ma ka
  obtain ⟨bs,rb⟩:=PySem.W.kqd_in N 9 mb kb
  have la:=kqd_lay 9 da ka
  have lb:=kqd_lay 9 db kb
  have e:PyData.eqv (kqdP da) (kqdP db)=decide (da=db):=by
    have q:=kqd_eqv 9 da db 9 ka kb
    by_cases hq:da=db
    · rw [decide_eq_true hq];exact q.mpr hq
    · rw [decide_eq_false hq];exact Bool.eq_false_iff.mpr fun x=>hq (q.mp x)
  refine eq_dataH ra rb ?_ ?_ hu (by rw [e];exact h)
  · unfold SeqAt.shaped;rw [la.1,Bool.true_and];exact decide_eq_true (Nat.le_trans la.2 (by decide))
  · unfold SeqAt.shaped;rw [lb.1,Bool.true_and];exact decide_eq_true (Nat.le_trans lb.2 (by decide))
open Classical in
theorem W0 {a b:Addr}{x y z u:Int}{t1 t2 t3 t4:Tok}(N:News h₀ L s.heap news)(ma:(a,Zk x y t1 t2)∈news)(mb:(b,Zk z u t3 t4)∈news)(hu:A.units+64<cLine)
   (h:Q (.bool (decide (x=z∧y=u))) s):wpAny (model prog w) A (compareOp .Eq (.ref a) (.ref b)) Q E s:=by
  refine Gp (da :=.tuple [.int x,.int y]) (db :=.tuple [.int z,.int u]) N (DatIn.tuple ma (.cons (.int _ _) (.cons (.int _ _) .nil))) (DatIn.tuple mb (.cons (.int _ _) (.cons (.int _ _) .nil))) rfl rfl hu ?_
  have e:(W.Dat.tuple [.int x,.int y]=W.Dat.tuple [.int z,.int u]) ↔ (x=z∧y=u):=by
    constructor
    · intro h;injection h with h;injection h with h1 h2;injection h2 with h2 h3;injection h1 with h1;injection h2 with h2;exact ⟨h1,h2⟩
    · rintro ⟨rfl,rfl⟩;rfl
  by_cases q:x=z∧y=u
  · rw [decide_eq_true (e.mpr q)];rw [decide_eq_true q] at h;exact h
  · rw [decide_eq_false (fun r=>q (e.mp r))];rw [decide_eq_false q] at h;exact h
theorem Zfc {a b:Addr}{x y z u:Int}{t1 t2 t3 t4:Tok}(N:News h₀ L s.heap news)(ma:(a,Zk x y t1 t2)∈news)(mb:(b,Zk z u t3 t4)∈news)(hu:A.units+64<cLine)
   (h:Q (.bool (decide (x=z∧y=u))) s):wpAny (model prog w) A (compareOp .Eq (.ref a) (.ref b)) Q E s:=by
  refine W0 N ma mb hu ?_
  by_cases q:x=z∧y=u
  · rw [decide_eq_true q];rw [decide_eq_true q] at h;exact h
  · rw [decide_eq_false q];rw [decide_eq_false q] at h;exact h
end
theorem ZeL {prog:Program}{w:World}{A:Around}{E:Value→Shared→Prop}{s:Shared}{h₀:Heap}{L:Addr}{m:Str→Option Value}{news:List (Addr×Obj)}{Q:Value→Shared→Prop}(F:Fr h₀ L s.heap m)(N:News h₀ L s.heap news)(D:Za news)
    (h:∀ (d:Nat) h' (led:Bool),Fr h₀ L h' m→News h₀ L h' ((d,{cls :=.type "set",dict:=none,data :=.set #[] 0 (.fresh 0 0 led)})::news)→Za ((d,{cls :=.type "set",dict:=none,data :=.set #[] 0 (.fresh 0 0 led)})::news)→Q (.ref d) {s with heap:=h'}) :
    wpAny (model prog w) A (call (.type "set") []) Q E s:=newSet_N F N (fun h' led F' N'=>h _ h' led F' N' (Za.cons (allLt_of fun p hp=>Heap.lt_size (N p hp).1) D))
theorem ZbU {prog:Program}{w:World}{A:Around}{E:Value→Shared→Prop}{s:Shared}{h₀:Heap}{L t:Addr}{news:List (Addr×Obj)}{vs:List Value}{n j:Nat}{k:Int}{u:Tok}{x:Value}{Q:Value→Shared→Prop}{value slice:PySem.Expr}
    (N:News h₀ L s.heap news) (hm:(t,({cls :=.type "tuple",data :=.seq vs.toArray n}:Obj))∈news) (hlo : -(2 ^ 63)≤k) (hhi:k<2 ^ 63) (hj:seqIndex? k vs.length=some j) (hx:vs[j]? = some x) (h:Q x s)
    (hs:subscripted slice false (.ref t) (.int k u)=operate [.ref t,.int k u] (getItem (.ref t) (.int k u)):=by with_unfolding_all rfl) (hg:∀ r,letTemporaryGo value (.ref t) r=pure ():=by intro _;with_unfolding_all rfl) :
    wpAny (model prog w) A (subscriptTail value slice (.ref t) (.int k u)) Q E s :=
  item_tupleL (l:=vs) ⟨_,(N _ hm).1,rfl,n,rfl⟩ hlo hhi hj hx h hs hg
theorem Zao {prog:Program}{w:World}{A:Around}{E:Value→Shared→Prop}{s:Shared}{h₀:Heap}{L D:Addr}{m:Str→Option Value}{news news':List (Addr×Obj)}{its:Array Value}{n:Nat}{k:Int}{t:Tok}{x:Value}{Q:Unit→Shared→Prop}(F:Fr h₀ L s.heap m)(N:News h₀ L s.heap news)(U:Upd D (W.listOf its n) (W.listOf (its.setIfInBounds k.toNat x) n) news news')(h0:0≤k)(hf:k<2 ^ 63)(h1:k<its.size)
    (h:∀ h',Fr h₀ L h' m→News h₀ L h' news'→Q () {s with heap:=h'}):wpAny (model prog w) A (setItem (.ref D) (.int k t) x) Q E s:=by
  obtain ⟨pre,post,rfl,rfl,a,b⟩:=U.split
  have z:=N (D,W.listOf its n) (List.mem_append.mpr (.inr (.head _)))
  exact ki_setAt z.1 h0 hf h1 (h _ (F.change (Heap.SameBut.update ..) z.2.1 z.2.2) (ki_turn _ N a b rfl (by simp)))
theorem WO {hv:Array Value}{k:Nat}{x:Value}(h:hv[k]? = some x):k<hv.size:=(Array.getElem?_eq_some_iff.mp h).1
theorem Zc {h₀ h:Heap}{L:Addr}{l R j:List (Addr×Obj)}(N:News h₀ L h l)(a:Tk R l j):News h₀ L h R:=fun p hp=>N p ((List.Perm.mem_iff a.perm).mpr (List.mem_append_left _ hp))
theorem Zb {l R j:List (Addr×Obj)}(D:Za l)(a:Tk R l j):Za R:=by
  have:=D.perm a.perm
  unfold Za at this ⊢
  rw [List.map_append,List.nodup_append] at this
  exact this.1
theorem U9 {a:Addr}{o o':Obj}{l l':List (Addr×Obj)}(h:l.map (·.1)=l'.map (·.1)):((a,o)::l).map (·.1)=((a,o')::l').map (·.1):=by rw [List.map_cons,List.map_cons,h]
theorem JT {X l l':List (Addr×Obj)}(h:l.map (·.1)=l'.map (·.1)):(X++l).map (·.1)=(X++l').map (·.1):=by rw [List.map_append,List.map_append,h]
theorem W2 {X X' l l':List (Addr×Obj)}(g:X.map (·.1)=X'.map (·.1))(h:l.map (·.1)=l'.map (·.1)):(X++l).map (·.1)=(X'++l').map (·.1):=by rw [List.map_append,List.map_append,g,h]
theorem Zd {h₀ h:Heap}{L:Addr}{l:List (Addr×Obj)}(_:News h₀ L h l)(D:Za l):Za l:=D
theorem WQ {prog:Program}{w:World}{A:Around}{E:Value→Shared→Prop}{s:Shared}{h₀:Heap}{L d:Addr}{o:Obj}{m:Str→Option Value}{news:List (Addr×Obj)}{Q:Value→Shared→Prop}(hh:A.handled=none)(F:Fr h₀ L s.heap m)(N:News h₀ L s.heap news)(D:Za news)(hp:(d,o)∈news)(hd:o.IsDictOf (strKind prog w) [])(lo:(d==sysModules)=false)
    (h:∀ (b:Nat) (c:Nat) h' tk,Fr h₀ L h' m→News h₀ L h' ((b,W.listOf #[] c)::news)→Za ((b,W.listOf #[] c)::news)→Q (.ref b) {s with heap:=h',toks:=tk}) :
    wpAny (model prog w) A (call (.type "list") [.ref d]) Q E s:=by
  obtain ⟨ep,hat⟩:=(kda_dict N hp hd).dictAt
  refine kdl_N (kdl_dict (knd:=strKind prog w) (kvs:=[]) (ep:=ep) lo) hh F N hat (Nat.zero_le _) fun B c h' tk vs F' N' l1 hl hv=>?_
  have e:vs=[]:=List.eq_nil_of_length_eq_zero hl
  subst e
  exact h B c h' tk F' N' (Za.cons (allLt_of l1) D)
end
theorem ZnU:True:=by
  walk_at "RST"
  walk_at "G slE"
  trivial
section
variable {w:World}{p:Program}{loose:List Str}{mean:ExcName→Option Value}{mg mb:Str→Option Value}
   {dp un:Nat}{gd:Option (List Code)}{cn:Str}{cs:Scope}{a:Addr}{ccd:Value}{cl:List (Str×Addr)}{outer:List Env}{A₀:Around}{base h₀:Heap}{L:Addr}{m:Str→Option Value}{s:Shared}{Q E:Value→Shared→Prop}
   (B:Below A₀ base outer h₀)(F:Fr h₀ L s.heap m)(X:(K w.params).In h₀)(T:Top p loose mean mg mb h₀)(hk:cs.kind = .function)
include B F X T hk
theorem Zbw {js:Hs}{hp stk trl s_n:Nat}{sto stod:Nat}{sym c:Nat}{tag v:Int}{t1 t2:Tok}{rest:List (Addr×Obj)}
   (N:News h₀ L s.heap rest)(ms1:(sto,instObj 430 stod)∈rest)(ms2:(stod,Zy js sym hp stk trl s_n)∈rest)(mc:(c,Zk tag v t1 t2)∈rest)(q0:tag≠0)(q1:tag≠1)
   (hdp:dp+5<recursionLimit)(hun:un+140<cLine)
   (ret:∀ (h':Heap)(tk':Nat),Fr h₀ L h' m→News h₀ L h' rest→Q (.ref c) {s with heap:=h',toks:=tk'}) :
   wpAny (model PR w) (ktrTop dp un gd cn cs L a ccd cl outer) (call (.ref 286) [.ref sto,.ref c]) Q E s:=by
  delta Zy at *
  refine wpAny_call ?_
  k_dflt cell_enter
  k_steps
  exact ret _ _ (by k_asm) (by k_asm)
theorem Zbv {js:Hs}{hp stk trl s_n:Nat}{sto stod:Nat}{sym c:Nat}{k:Nat}{hv:Array Value}{he:Nat}{t1 t2:Tok}{rest:List (Addr×Obj)}
   (N:News h₀ L s.heap rest)(ms1:(sto,instObj 430 stod)∈rest)(ms2:(stod,Zy js sym hp stk trl s_n)∈rest)(mc:(c,Zk 0 k t1 t2)∈rest)(mh:(hp,W.listOf hv he)∈rest)(q0:hv[k]? = some (.ref c))(q1:k<100000)
   (hdp:dp+5<recursionLimit)(hun:un+140<cLine)
   (ret:∀ (h':Heap)(tk':Nat),Fr h₀ L h' m→News h₀ L h' rest→Q (.ref c) {s with heap:=h',toks:=tk'}) :
   wpAny (model PR w) (ktrTop dp un gd cn cs L a ccd cl outer) (call (.ref 286) [.ref sto,.ref c]) Q E s:=by
  delta Zy at *
  refine wpAny_call ?_
  k_dflt cell_enter
  k_steps
  exact ret _ _ (by k_asm) (by k_asm)
theorem Zbx {js:Hs}{hp stk trl s_n:Nat}{sto stod:Nat}{sym c c2:Nat}{k:Nat}{tag v:Int}{hv:Array Value}{he:Nat}{t1 t2 t3 t4:Tok}{rest:List (Addr×Obj)}
   (N:News h₀ L s.heap rest)(ms1:(sto,instObj 430 stod)∈rest)(ms2:(stod,Zy js sym hp stk trl s_n)∈rest)(mc:(c,Zk 0 k t1 t2)∈rest)(mc2:(c2,Zk tag v t3 t4)∈rest)(mh:(hp,W.listOf hv he)∈rest)(q0:hv[k]? = some (.ref c2))(q1:k<100000)(q2:tag≠0)(q3:tag≠1)
   (hdp:dp+5<recursionLimit)(hun:un+140<cLine)
   (ret:∀ (h':Heap)(tk':Nat),Fr h₀ L h' m→News h₀ L h' rest→Q (.ref c2) {s with heap:=h',toks:=tk'}) :
   wpAny (model PR w) (ktrTop dp un gd cn cs L a ccd cl outer) (call (.ref 286) [.ref sto,.ref c]) Q E s:=by
  delta Zy at *
  refine wpAny_call ?_
  k_dflt cell_enter
  k_steps
  exact ret _ _ (by k_asm) (by k_asm)
omit B F X T hk in
inductive Der (news:List (Addr×Obj)) (hp:Nat):Nat→Nat→Prop
  | con {c:Nat} {tag v:Int} {t1 t2:Tok}:(c,Zk tag v t1 t2)∈news→tag≠0→tag≠1→Der news hp c c
  | var {c k he:Nat} {hv:Array Value} {t1 t2:Tok}:(c,Zk 0 k t1 t2)∈news→(hp,W.listOf hv he)∈news→hv[k]? = some (.ref c)→k<100000→Der news hp c c
  | bnd {c c2 k he:Nat} {tag v:Int} {hv:Array Value} {t1 t2 t3 t4:Tok}:(c,Zk 0 k t1 t2)∈news→(c2,Zk tag v t3 t4)∈news→(hp,W.listOf hv he)∈news→hv[k]? = some (.ref c2)→k<100000→tag≠0→tag≠1→Der news hp c c2
omit B F X T hk in
theorem Der.mono {l l':List (Addr×Obj)}{hp c c':Nat}(d:Der l hp c c')(h:∀ p∈l,p∈l'):Der l' hp c c':=by
  cases d with
  | con a b c=>exact .con (h _ a) b c
  | var a b c d=>exact .var (h _ a) (h _ b) c d
  | bnd a b c d e f g=>exact .bnd (h _ a) (h _ b) (h _ c) d e f g
omit B F X T hk in
theorem Der.out {l:List (Addr×Obj)}{hp c c':Nat}(d:Der l hp c c'):∃ tag v t1 t2,(c',Zk tag v t1 t2)∈l∧tag≠1:=by
  cases d with
  | con a b c=>exact ⟨_,_,_,_,a,c⟩
  | var a b c d=>exact ⟨_,_,_,_,a,by decide⟩
  | bnd a b c d e f g=>exact ⟨_,_,_,_,b,g⟩
theorem Gs {js:Hs}{hp stk trl s_n:Nat}{sto stod:Nat}{sym c c':Nat}{rest:List (Addr×Obj)}
   (N:News h₀ L s.heap rest)(ms1:(sto,instObj 430 stod)∈rest)(ms2:(stod,Zy js sym hp stk trl s_n)∈rest)(dr:Der rest hp c c')
   (hdp:dp+5<recursionLimit)(hun:un+140<cLine)
   (ret:∀ (h':Heap)(tk':Nat),Fr h₀ L h' m→News h₀ L h' rest→Q (.ref c') {s with heap:=h',toks:=tk'}) :
   wpAny (model PR w) (ktrTop dp un gd cn cs L a ccd cl outer) (call (.ref 286) [.ref sto,.ref c]) Q E s:=by
  delta Zy at *
  cases dr with
  | con a b c=>exact Zbw B F X T hk N ms1 ms2 a b c hdp hun ret
  | var a b c d=>exact Zbv B F X T hk N ms1 ms2 a b c d hdp hun ret
  | bnd a b c d e f g=>exact Zbx B F X T hk N ms1 ms2 a b c d e f g hdp hun ret
theorem ZnT:True:=by
  k_with "call ref" =>(k_here;(with_reducible show wpAny _ _ (call (Value.ref 286) _) _ _ _);k_dflt (refine' Gs (B:=?zB) (F:=?zF) (X:=?zX) (T:=?zT) (hk:=?zhk) (N:=?zN) (hdp:=?zhdp) (hun:=?zhun) (ms1:=?zms1) (ms2:=?zms2) (dr:=?zdr) (ret:=?_);k_extra "z6";(case zms1=>k_mem);(case zms2=>k_mem);(case zdr=>first|with_reducible assumption|k_asm);(case zhdp=>ktr_room);(case zhun=>ktr_units));intro h' tk' F' N';(try dsimp only))
  trivial
theorem WU {js:Hs}{hp stk trl s_n:Nat}{sto stod:Nat}{sym c c':Nat}{rest:List (Addr×Obj)}
   (N:News h₀ L s.heap rest)(ms1:(sto,instObj 430 stod)∈rest)(ms2:(stod,Zy js sym hp stk trl s_n)∈rest)(dr:Der rest hp c c')
   (hdp:dp+10<recursionLimit)(hun:un+160<cLine)
   (ret:∀ (h':Heap)(tk':Nat),Fr h₀ L h' m→News h₀ L h' rest→Q (.ref c') {s with heap:=h',toks:=tk'}) :
   wpAny (model PR w) (ktrTop dp un gd cn cs L a ccd cl outer) (call (.ref 314) [.ref sto,.ref c]) Q E s:=by
  delta Zy at *
  obtain ⟨tag,v,t1,t2,mc,q1⟩:=dr.out
  refine wpAny_call ?_
  k_dflt cell_enter
  k_steps
  exact ret _ _ (by k_asm) (by k_asm)
theorem ZnS:True:=by
  k_with "call ref" =>(k_here;(with_reducible show wpAny _ _ (call (Value.ref 314) _) _ _ _);k_dflt (refine' WU (B:=?zB) (F:=?zF) (X:=?zX) (T:=?zT) (hk:=?zhk) (N:=?zN) (hdp:=?zhdp) (hun:=?zhun) (ms1:=?zms1) (ms2:=?zms2) (dr:=?zdr) (ret:=?_);k_extra "z6";(case zms1=>k_mem);(case zms2=>k_mem);(case zdr=>first|with_reducible assumption|k_asm);(case zhdp=>ktr_room);(case zhun=>ktr_units));intro h' tk' F' N';(try dsimp only))
  trivial
theorem Zeg {js:Hs}{hp stk trl s_n:Nat}{sto stod:Nat}{jm:Hs}{mcode xl grd rts bgs dbs m_n:Nat}{mad mmd:Nat}{sym c c' xe:Nat}{xv:Array Value}{ti:Tok}{rest:List (Addr×Obj)}
   (N:News h₀ L s.heap rest)(mm1:(mad,instObj 1104 mmd)∈rest)(mm2:(mmd,ZB jm sym mcode sto xl grd rts bgs dbs m_n)∈rest)(ms1:(sto,instObj 430 stod)∈rest)(ms2:(stod,Zy js sym hp stk trl s_n)∈rest)(mx:(xl,W.listOf xv xe)∈rest)(hx:xv[1]? = some (.ref c))(dr:Der rest hp c c')
   (hdp:dp+15<recursionLimit)(hun:un+180<cLine)
   (ret:∀ (h':Heap)(tk':Nat),Fr h₀ L h' m→News h₀ L h' rest→Q (.ref c') {s with heap:=h',toks:=tk'}) :
   wpAny (model PR w) (ktrTop dp un gd cn cs L a ccd cl outer) (call (.ref 947) [.ref mad,.int 1 ti]) Q E s:=by
  delta Zy ZB at *
  refine wpAny_call ?_
  k_dflt cell_enter
  k_steps
  exact ret _ _ (by k_asm) (by k_asm)
theorem Zem {js:Hs}{hp stk trl s_n:Nat}{sto stod:Nat}{sym c:Nat}{tag v:Int}{t1 t2:Tok}{rest:List (Addr×Obj)}
   (N:News h₀ L s.heap rest)(ms1:(sto,instObj 430 stod)∈rest)(ms2:(stod,Zy js sym hp stk trl s_n)∈rest)(mc:(c,Zk tag v t1 t2)∈rest)(q0:tag≠0)(q1:tag≠1)
   (hdp:dp+5<recursionLimit)(hun:un+140<cLine)
   (ret:∀ (h':Heap)(tk':Nat),Fr h₀ L h' m→News h₀ L h' rest→Q (.bool false) {s with heap:=h',toks:=tk'}) :
   wpAny (model PR w) (ktrTop dp un gd cn cs L a ccd cl outer) (call (.ref 293) [.ref sto,.ref c]) Q E s:=by
  delta Zy at *
  refine wpAny_call ?_
  k_dflt cell_enter
  k_steps
  exact ret _ _ (by k_asm) (by k_asm)
theorem Zel {js:Hs}{hp stk trl s_n:Nat}{sto stod:Nat}{sym c:Nat}{k:Nat}{hv:Array Value}{he:Nat}{t1 t2:Tok}{rest:List (Addr×Obj)}
   (N:News h₀ L s.heap rest)(ms1:(sto,instObj 430 stod)∈rest)(ms2:(stod,Zy js sym hp stk trl s_n)∈rest)(mc:(c,Zk 0 k t1 t2)∈rest)(mh:(hp,W.listOf hv he)∈rest)(q0:hv[k]? = some (.ref c))(q1:k<100000)
   (hdp:dp+5<recursionLimit)(hun:un+140<cLine)
   (ret:∀ (h':Heap)(tk':Nat),Fr h₀ L h' m→News h₀ L h' rest→Q (.bool true) {s with heap:=h',toks:=tk'}) :
   wpAny (model PR w) (ktrTop dp un gd cn cs L a ccd cl outer) (call (.ref 293) [.ref sto,.ref c]) Q E s:=by
  delta Zy at *
  refine wpAny_call ?_
  k_dflt cell_enter
  k_steps
  rw [decide_eq_true (⟨rfl,rfl⟩:(0:Int)=0∧(k:Int)=k)]
  exact ret _ _ (by k_asm) (by k_asm)
end
theorem ZnR:True:=by
  walk_at "RST"
  walk_at "G slE"
  trivial
section
variable {w:World}{p:Program}{loose:List Str}{mean:ExcName→Option Value}{mg mb:Str→Option Value}
   {dp un:Nat}{gd:Option (List Code)}{cn:Str}{cs:Scope}{a:Addr}{ccd:Value}{cl:List (Str×Addr)}{outer:List Env}{A₀:Around}{base h₀:Heap}{L:Addr}{m:Str→Option Value}{s:Shared}{Q E:Value→Shared→Prop}
   (B:Below A₀ base outer h₀)(F:Fr h₀ L s.heap m)(X:(K w.params).In h₀)(T:Top p loose mean mg mb h₀)(hk:cs.kind = .function)
include B F X T hk
theorem ZnQ:True:=by
  k_with "call ref" =>(k_here;(with_reducible show wpAny _ _ (call (Value.ref 286) _) _ _ _);k_dflt (refine' Gs (B:=?zB) (F:=?zF) (X:=?zX) (T:=?zT) (hk:=?zhk) (N:=?zN) (hdp:=?zhdp) (hun:=?zhun) (ms1:=?zms1) (ms2:=?zms2) (dr:=?zdr) (ret:=?_);k_extra "z6";(case zms1=>k_mem);(case zms2=>k_mem);(case zdr=>first|with_reducible assumption|k_asm);(case zhdp=>ktr_room);(case zhun=>ktr_units));intro h' tk' F' N';(try dsimp only))
  k_with "call ref" =>(k_here;(with_reducible show wpAny _ _ (call (Value.ref 314) _) _ _ _);k_dflt (refine' WU (B:=?zB) (F:=?zF) (X:=?zX) (T:=?zT) (hk:=?zhk) (N:=?zN) (hdp:=?zhdp) (hun:=?zhun) (ms1:=?zms1) (ms2:=?zms2) (dr:=?zdr) (ret:=?_);k_extra "z6";(case zms1=>k_mem);(case zms2=>k_mem);(case zdr=>first|with_reducible assumption|k_asm);(case zhdp=>ktr_room);(case zhun=>ktr_units));intro h' tk' F' N';(try dsimp only))
  walk_at "G der"
  trivial
omit B F X T hk in
noncomputable def Js {js:Hs}{hp stk trl s_n sto stod sym c c2 he:Nat}{hv:Array Value}{tag v tag2 v2:Int}{t1 t2 t3 t4:Tok}{rest:List (Addr×Obj)}:Prop:=∀ (B:Below A₀ base outer h₀)(F:Fr h₀ L s.heap m)(X:(K w.params).In h₀)(T:Top p loose mean mg mb h₀)(hk:cs.kind = .function)(N:News h₀ L s.heap rest)(D:Za rest)(ms1:(sto,instObj 430 stod)∈rest)(ms2:(stod,Zy js sym hp stk trl s_n)∈rest)(mh:(hp,W.listOf hv he)∈rest)(hsz:Zl hv)(mc:(c,Zk tag v t1 t2)∈rest)(mc2:(c2,Zk tag2 v2 t3 t4)∈rest)(q0:3<tag)(q1:3<tag2)(hdp:dp+25<recursionLimit)(hun:un+300<cLine)(ret:∀ (b:Bool)(h':Heap)(tk':Nat),b=decide (tag=tag2∧v=v2)→Fr h₀ L h' m→News h₀ L h' rest→Q (.bool b) {s with heap:=h',toks:=tk'}),
   wpAny (model PR w) (ktrTop dp un gd cn cs L a ccd cl outer) (call (.ref 890) [.ref sto,.ref c,.ref c2,.bool true]) Q E s
noncomputable def YF (c:Zf):Prop:=@cF _ (@Js) c (c.vj 0) (c.a 4) (c.a 5) (c.a 6) (c.a 7) (c.a 8) (c.a 9) (c.a 10) (c.a 11) (c.a 12) (c.a 13) (c.vc 0) (c.m 0) (c.m 1) (c.m 2) (c.m 3) (c.o 0) (c.o 1) (c.o 2) (c.o 3) (c.b 0)
omit B F X T hk in
noncomputable def Jr {js:Hs}{hp stk trl s_n sto stod sym c c2 he k:Nat}{hv:Array Value}{tag2 v2:Int}{t1 t2 t3 t4:Tok}{news rest:List (Addr×Obj)}:Prop:=∀ (B:Below A₀ base outer h₀)(F:Fr h₀ L s.heap m)(X:(K w.params).In h₀)(T:Top p loose mean mg mb h₀)(hk:cs.kind = .function)(N:News h₀ L s.heap news)(D:Za news)(P:Tk [(hp,W.listOf hv he)] news rest)(ms1:(sto,instObj 430 stod)∈rest)(ms2:(stod,Zy js sym hp stk trl s_n)∈rest)(hsz:Zl hv)(mc:(c,Zk 0 k t1 t2)∈rest)(mc2:(c2,Zk tag2 v2 t3 t4)∈rest)(q0:hv[k]? = some (.ref c))(q1:k<100000)(q2:3<tag2)(hdp:dp+25<recursionLimit)(hun:un+300<cLine)(ret:∀ (h':Heap)(tk':Nat),Fr h₀ L h' m→News h₀ L h' ((hp,W.listOf (hv.setIfInBounds k (.ref c2)) he)::rest)→Za ((hp,W.listOf (hv.setIfInBounds k (.ref c2)) he)::rest)→Q (.bool true) {s with heap:=h',toks:=tk'}),
   wpAny (model PR w) (ktrTop dp un gd cn cs L a ccd cl outer) (call (.ref 890) [.ref sto,.ref c,.ref c2,.bool true]) Q E s
noncomputable def YE (c:Zf):Prop:=@cF _ (@Jr) c (c.vj 0) (c.a 4) (c.a 5) (c.a 6) (c.a 7) (c.a 8) (c.a 9) (c.a 10) (c.a 11) (c.a 12) (c.a 13) (c.a 14) (c.vc 0) (c.m 0) (c.m 1) (c.o 0) (c.o 1) (c.o 2) (c.o 3) (c.b 0) (c.b 1)
noncomputable def Vu:Zf:=ZM Zj fun c=>YF c∧YE c
omit B F X T hk in
theorem ZaX:YF Vu:=by
  delta YF cF
  k_extra "gS"
  exists Zf.a _ _,hp,stk,trl,s_n,sto,stod,sym,c,c2,he
  exists Zf.vj _ _,js
  exists Zf.vc _ _,hv
  exists Zf.m _ _,tag,v,tag2,v2
  exists Zf.o _ _,t1,t2,t3,t4
  exists Zf.b _ _,rest
  intro B F X T hk N D ms1 ms2 mh hsz mc mc2 q0 q1 hdp hun ret
  delta Zy at *
  refine wpAny_call ?_
  k_dflt cell_enter
  k_steps
  · exact ret _ _ _ (decide_eq_true (by assumption)).symm (by k_asm) (Zc (by k_asm) (by ktr_rel))
  · exact ret _ _ _ (decide_eq_false (by assumption)).symm (by k_asm) (Zc (by k_asm) (by ktr_rel))
omit B F X T hk in
theorem ZaW:YE Vu:=by
  delta YE cF
  k_extra "gS"
  exists Zf.a _ _,hp,stk,trl,s_n,sto,stod,sym,c,c2,he,k
  exists Zf.vj _ _,js
  exists Zf.vc _ _,hv
  exists Zf.m _ _,tag2,v2
  exists Zf.o _ _,t1,t2,t3,t4
  exists Zf.b _ _,news,rest
  intro B F X T hk N D P ms1 ms2 hsz mc mc2 q0 q1 q2 hdp hun ret
  delta Zy at *
  have hk1:=WO q0
  have N₁:News h₀ L s.heap ((hp,W.listOf hv he)::rest):=Ze N P.perm
  have D₁:Za ((hp,W.listOf hv he)::rest):=D.perm P.perm
  clear N D
  refine wpAny_call ?_
  k_dflt cell_enter
  k_steps
  rename News _ _ _ _=>nN
  have nD:=Zd nN (by ktr_unf)
  exact ret _ _ (by k_asm) (Zc nN (by ktr_rel)) (Zb nD (by ktr_rel))
omit B F X T hk in
theorem VW:∀ c:Zf,YF c∧YE c:=ZN (k:=Vu) rfl ⟨ZaX,ZaW⟩
omit B F X T hk in
theorem J5 {js hp stk trl s_n sto stod sym c c2 he hv tag v tag2 v2 t1 t2 t3 t4 rest}:@Js w p loose mean mg mb dp un gd cn cs a ccd cl outer A₀ base h₀ L m s Q E js hp stk trl s_n sto stod sym c c2 he hv tag v tag2 v2 t1 t2 t3 t4 rest:=(VW (cS w p loose mean mg mb m gd cn cs ccd cl outer A₀ base h₀ s Q E |>.sa (gt dC.a [dp,un,a,L,hp,stk,trl,s_n,sto,stod,sym,c,c2,he]) |>.svj (gt dC.vj [js]) |>.svc (gt dC.vc [hv]) |>.sm (gt dC.m [tag,v,tag2,v2]) |>.so (gt dC.o [t1,t2,t3,t4]) |>.sb (gt dC.b [rest]))).1
omit B F X T hk in
theorem J4 {js hp stk trl s_n sto stod sym c c2 he k hv tag2 v2 t1 t2 t3 t4 news rest}:@Jr w p loose mean mg mb dp un gd cn cs a ccd cl outer A₀ base h₀ L m s Q E js hp stk trl s_n sto stod sym c c2 he k hv tag2 v2 t1 t2 t3 t4 news rest:=(VW (cS w p loose mean mg mb m gd cn cs ccd cl outer A₀ base h₀ s Q E |>.sa (gt dC.a [dp,un,a,L,hp,stk,trl,s_n,sto,stod,sym,c,c2,he,k]) |>.svj (gt dC.vj [js]) |>.svc (gt dC.vc [hv]) |>.sm (gt dC.m [tag2,v2]) |>.so (gt dC.o [t1,t2,t3,t4]) |>.sb (gt dC.b [news,rest]))).2
end
theorem ZnP:True:=by
  walk_at "RST"
  walk_at "G slE"
  trivial
@[reducible] noncomputable def Ga (k:String)(v:Int)(t1 t2:Tok):Obj:={cls :=.type "tuple",data :=.seq [Value.str (.ofString k) t1,Value.int v t2].toArray}
section
variable {w:World}{p:Program}{loose:List Str}{mean:ExcName→Option Value}{mg mb:Str→Option Value}
   {dp un:Nat}{gd:Option (List Code)}{cn:Str}{cs:Scope}{a:Addr}{ccd:Value}{cl:List (Str×Addr)}{outer:List Env}{A₀:Around}{base h₀:Heap}{L:Addr}{m:Str→Option Value}{s:Shared}{Q E:Value→Shared→Prop}
   (B:Below A₀ base outer h₀)(F:Fr h₀ L s.heap m)(X:(K w.params).In h₀)(T:Top p loose mean mg mb h₀)(hk:cs.kind = .function)
include B F X T hk
theorem ZnO:True:=by
  k_with "call ref" =>(k_here;(with_reducible show wpAny _ _ (call (Value.ref 286) _) _ _ _);k_dflt (refine' Gs (B:=?zB) (F:=?zF) (X:=?zX) (T:=?zT) (hk:=?zhk) (N:=?zN) (hdp:=?zhdp) (hun:=?zhun) (ms1:=?zms1) (ms2:=?zms2) (dr:=?zdr) (ret:=?_);k_extra "z6";(case zms1=>k_mem);(case zms2=>k_mem);(case zdr=>first|with_reducible assumption|k_asm);(case zhdp=>ktr_room);(case zhun=>ktr_units));intro h' tk' F' N';(try dsimp only))
  k_with "call ref" =>(k_here;(with_reducible show wpAny _ _ (call (Value.ref 314) _) _ _ _);k_dflt (refine' WU (B:=?zB) (F:=?zF) (X:=?zX) (T:=?zT) (hk:=?zhk) (N:=?zN) (hdp:=?zhdp) (hun:=?zhun) (ms1:=?zms1) (ms2:=?zms2) (dr:=?zdr) (ret:=?_);k_extra "z6";(case zms1=>k_mem);(case zms2=>k_mem);(case zdr=>first|with_reducible assumption|k_asm);(case zhdp=>ktr_room);(case zhun=>ktr_units));intro h' tk' F' N';(try dsimp only))
  walk_at "G der"
  trivial
omit B F X T hk in
noncomputable def GB {js:Hs}{hp stk trl s_n sto stod:Nat}{jm:Hs}{mcode xl grd rts bgs dbs m_n mad mmd sym c c2:Nat}{v:Int}{t1 t2:Tok}{rest:List (Addr×Obj)}:Prop:=∀ (B:Below A₀ base outer h₀)(F:Fr h₀ L s.heap m)(X:(K w.params).In h₀)(T:Top p loose mean mg mb h₀)(hk:cs.kind = .function)(N:News h₀ L s.heap rest)(D:Za rest)(mm1:(mad,instObj 1104 mmd)∈rest)(mm2:(mmd,ZB jm sym mcode sto xl grd rts bgs dbs m_n)∈rest)(ms1:(sto,instObj 430 stod)∈rest)(ms2:(stod,Zy js sym hp stk trl s_n)∈rest)(dr:Der rest hp c c2)(mc2:(c2,Zk 4 v t1 t2)∈rest)(hdp:dp+25<recursionLimit)(hun:un+300<cLine)(ret:∀ (t:Nat)(k1 k2:Tok)(h':Heap)(tk':Nat),Fr h₀ L h' m→News h₀ L h' ((t,Ga "a" v k1 k2)::rest)→Za ((t,Ga "a" v k1 k2)::rest)→Q (.ref t) {s with heap:=h',toks:=tk'}),
   wpAny (model PR w) (ktrTop dp un gd cn cs L a ccd cl outer) (call (.ref 961) [.ref mad,.ref c]) Q E s
noncomputable def Y9 (c:Zf):Prop:=@cF _ (@GB) c (c.vj 0) (c.a 4) (c.a 5) (c.a 6) (c.a 7) (c.a 8) (c.a 9) (c.vj 1) (c.a 10) (c.a 11) (c.a 12) (c.a 13) (c.a 14) (c.a 15) (c.a 16) (c.a 17) (c.a 18) (c.a 19) (c.a 20) (c.a 21) (c.m 0) (c.o 0) (c.o 1) (c.b 0)
omit B F X T hk in
noncomputable def GA {js:Hs}{hp stk trl s_n sto stod:Nat}{jm:Hs}{mcode xl grd rts bgs dbs m_n mad mmd sym c c2:Nat}{v:Int}{t1 t2:Tok}{rest:List (Addr×Obj)}:Prop:=∀ (B:Below A₀ base outer h₀)(F:Fr h₀ L s.heap m)(X:(K w.params).In h₀)(T:Top p loose mean mg mb h₀)(hk:cs.kind = .function)(N:News h₀ L s.heap rest)(D:Za rest)(mm1:(mad,instObj 1104 mmd)∈rest)(mm2:(mmd,ZB jm sym mcode sto xl grd rts bgs dbs m_n)∈rest)(ms1:(sto,instObj 430 stod)∈rest)(ms2:(stod,Zy js sym hp stk trl s_n)∈rest)(dr:Der rest hp c c2)(mc2:(c2,Zk 5 v t1 t2)∈rest)(hdp:dp+25<recursionLimit)(hun:un+300<cLine)(ret:∀ (t:Nat)(k1 k2:Tok)(h':Heap)(tk':Nat),Fr h₀ L h' m→News h₀ L h' ((t,Ga "i" v k1 k2)::rest)→Za ((t,Ga "i" v k1 k2)::rest)→Q (.ref t) {s with heap:=h',toks:=tk'}),
   wpAny (model PR w) (ktrTop dp un gd cn cs L a ccd cl outer) (call (.ref 961) [.ref mad,.ref c]) Q E s
noncomputable def Y8 (c:Zf):Prop:=@cF _ (@GA) c (c.vj 0) (c.a 4) (c.a 5) (c.a 6) (c.a 7) (c.a 8) (c.a 9) (c.vj 1) (c.a 10) (c.a 11) (c.a 12) (c.a 13) (c.a 14) (c.a 15) (c.a 16) (c.a 17) (c.a 18) (c.a 19) (c.a 20) (c.a 21) (c.m 0) (c.o 0) (c.o 1) (c.b 0)
noncomputable def UC:Zf:=ZM Zj fun c=>Y9 c∧Y8 c
omit B F X T hk in
theorem ZbP:Y9 UC:=by
  delta Y9 cF
  k_extra "gS"
  exists Zf.a _ _,hp,stk,trl,s_n,sto,stod,mcode,xl,grd,rts,bgs,dbs,m_n,mad,mmd,sym,c,c2
  exists Zf.vj _ _,js,jm
  exists Zf.m _ _,v
  exists Zf.o _ _,t1,t2
  exists Zf.b _ _,rest
  intro B F X T hk N D mm1 mm2 ms1 ms2 dr mc2 hdp hun ret
  delta Zy ZB at *
  refine wpAny_call ?_
  k_dflt cell_enter
  k_steps
  rename News _ _ _ _=>nN
  have nD:=Zd nN (by ktr_unf)
  exact ret _ _ _ _ _ (by k_asm) (Zc nN (by ktr_rel)) (Zb nD (by ktr_rel))
omit B F X T hk in
theorem ZbN:Y8 UC:=by
  delta Y8 cF
  k_extra "gS"
  exists Zf.a _ _,hp,stk,trl,s_n,sto,stod,mcode,xl,grd,rts,bgs,dbs,m_n,mad,mmd,sym,c,c2
  exists Zf.vj _ _,js,jm
  exists Zf.m _ _,v
  exists Zf.o _ _,t1,t2
  exists Zf.b _ _,rest
  intro B F X T hk N D mm1 mm2 ms1 ms2 dr mc2 hdp hun ret
  delta Zy ZB at *
  refine wpAny_call ?_
  k_dflt cell_enter
  k_steps
  rename News _ _ _ _=>nN
  have nD:=Zd nN (by ktr_unf)
  exact ret _ _ _ _ _ (by k_asm) (Zc nN (by ktr_rel)) (Zb nD (by ktr_rel))
omit B F X T hk in
theorem UB:∀ c:Zf,Y9 c∧Y8 c:=ZN (k:=UC) rfl ⟨ZbP,ZbN⟩
omit B F X T hk in
theorem ZbQ {js hp stk trl s_n sto stod jm mcode xl grd rts bgs dbs m_n mad mmd sym c c2 v t1 t2 rest}:@GB w p loose mean mg mb dp un gd cn cs a ccd cl outer A₀ base h₀ L m s Q E js hp stk trl s_n sto stod jm mcode xl grd rts bgs dbs m_n mad mmd sym c c2 v t1 t2 rest:=(UB (cS w p loose mean mg mb m gd cn cs ccd cl outer A₀ base h₀ s Q E |>.sa (gt dC.a [dp,un,a,L,hp,stk,trl,s_n,sto,stod,mcode,xl,grd,rts,bgs,dbs,m_n,mad,mmd,sym,c,c2]) |>.svj (gt dC.vj [js,jm]) |>.sm (gt dC.m [v]) |>.so (gt dC.o [t1,t2]) |>.sb (gt dC.b [rest]))).1
omit B F X T hk in
theorem ZbO {js hp stk trl s_n sto stod jm mcode xl grd rts bgs dbs m_n mad mmd sym c c2 v t1 t2 rest}:@GA w p loose mean mg mb dp un gd cn cs a ccd cl outer A₀ base h₀ L m s Q E js hp stk trl s_n sto stod jm mcode xl grd rts bgs dbs m_n mad mmd sym c c2 v t1 t2 rest:=(UB (cS w p loose mean mg mb m gd cn cs ccd cl outer A₀ base h₀ s Q E |>.sa (gt dC.a [dp,un,a,L,hp,stk,trl,s_n,sto,stod,mcode,xl,grd,rts,bgs,dbs,m_n,mad,mmd,sym,c,c2]) |>.svj (gt dC.vj [js,jm]) |>.sm (gt dC.m [v]) |>.so (gt dC.o [t1,t2]) |>.sb (gt dC.b [rest]))).2
end
theorem ZnN:True:=by
  walk_at "RST"
  walk_at "G slE"
  walk_at "G loop"
  trivial
section
variable {w:World}{p:Program}{loose:List Str}{mean:ExcName→Option Value}{mg mb:Str→Option Value}
   {dp un:Nat}{gd:Option (List Code)}{cn:Str}{cs:Scope}{a:Addr}{ccd:Value}{cl:List (Str×Addr)}{outer:List Env}{A₀:Around}{base h₀:Heap}{L:Addr}{m:Str→Option Value}{s:Shared}{Q E:Value→Shared→Prop}
   (B:Below A₀ base outer h₀)(F:Fr h₀ L s.heap m)(X:(K w.params).In h₀)(T:Top p loose mean mg mb h₀)(hk:cs.kind = .function)
include B F X T hk
omit B F X T hk in
noncomputable def Zas {js:Hs}{hp stk trl s_n sto stod sym tm tb:Nat}{ot:Obj}{v:Int}{t1 t2:Tok}{rest:List (Addr×Obj)}:Prop:=∀ (B:Below A₀ base outer h₀)(F:Fr h₀ L s.heap m)(X:(K w.params).In h₀)(T:Top p loose mean mg mb h₀)(hk:cs.kind = .function)(N:News h₀ L s.heap rest)(D:Za rest)(ms1:(sto,instObj 430 stod)∈rest)(ms2:(stod,Zy js sym hp stk trl s_n)∈rest)(mt:(tm,Ga "a" v t1 t2)∈rest)(mb':(tb,ot)∈rest)(hts:ot.IsDictOf (strKind PR w) [])(hti:ot.IsDictOf (intKind PR w) [])(lo:(tb==sysModules)=false)(hdp:dp+25<recursionLimit)(hun:un+300<cLine)(ret:∀ (c:Nat)(k1 k2:Tok)(h':Heap)(tk':Nat),Fr h₀ L h' m→News h₀ L h' ((c,Zk 4 v k1 k2)::rest)→Za ((c,Zk 4 v k1 k2)::rest)→Q (.ref c) {s with heap:=h',toks:=tk'}),
   wpAny (model PR w) (ktrTop dp un gd cn cs L a ccd cl outer) (call (.ref 420) [.ref sto,.ref tm,.ref tb]) Q E s
noncomputable def Up (c:Zf):Prop:=@cF _ (@Zas) c (c.vj 0) (c.a 4) (c.a 5) (c.a 6) (c.a 7) (c.a 8) (c.a 9) (c.a 10) (c.a 11) (c.a 12) (c.v 0) (c.m 0) (c.o 0) (c.o 1) (c.b 0)
omit B F X T hk in
noncomputable def Zar {js:Hs}{hp stk trl s_n sto stod sym tm tb:Nat}{ot:Obj}{v:Int}{t1 t2:Tok}{rest:List (Addr×Obj)}:Prop:=∀ (B:Below A₀ base outer h₀)(F:Fr h₀ L s.heap m)(X:(K w.params).In h₀)(T:Top p loose mean mg mb h₀)(hk:cs.kind = .function)(N:News h₀ L s.heap rest)(D:Za rest)(ms1:(sto,instObj 430 stod)∈rest)(ms2:(stod,Zy js sym hp stk trl s_n)∈rest)(mt:(tm,Ga "i" v t1 t2)∈rest)(mb':(tb,ot)∈rest)(hts:ot.IsDictOf (strKind PR w) [])(hti:ot.IsDictOf (intKind PR w) [])(lo:(tb==sysModules)=false)(hdp:dp+25<recursionLimit)(hun:un+300<cLine)(ret:∀ (c:Nat)(k1 k2:Tok)(h':Heap)(tk':Nat),Fr h₀ L h' m→News h₀ L h' ((c,Zk 5 v k1 k2)::rest)→Za ((c,Zk 5 v k1 k2)::rest)→Q (.ref c) {s with heap:=h',toks:=tk'}),
   wpAny (model PR w) (ktrTop dp un gd cn cs L a ccd cl outer) (call (.ref 420) [.ref sto,.ref tm,.ref tb]) Q E s
noncomputable def Un (c:Zf):Prop:=@cF _ (@Zar) c (c.vj 0) (c.a 4) (c.a 5) (c.a 6) (c.a 7) (c.a 8) (c.a 9) (c.a 10) (c.a 11) (c.a 12) (c.v 0) (c.m 0) (c.o 0) (c.o 1) (c.b 0)
omit B F X T hk in
noncomputable def Zaq {js:Hs}{hp stk trl s_n sto stod sym tm tb he:Nat}{ot:Obj}{hv:Array Value}{t1 t2:Tok}{news rest:List (Addr×Obj)}:Prop:=∀ (B:Below A₀ base outer h₀)(F:Fr h₀ L s.heap m)(X:(K w.params).In h₀)(T:Top p loose mean mg mb h₀)(hk:cs.kind = .function)(N:News h₀ L s.heap news)(D:Za news)(P:Tk [(hp,W.listOf hv he),(tb,ot)] news rest)(hsz:hv.size<100000)(ms1:(sto,instObj 430 stod)∈rest)(ms2:(stod,Zy js sym hp stk trl s_n)∈rest)(mt:(tm,Ga "v" 0 t1 t2)∈rest)(hts:ot.IsDictOf (strKind PR w) [])(hti:ot.IsDictOf (intKind PR w) [])(lo:(tb==sysModules)=false)(hdp:dp+25<recursionLimit)(hun:un+300<cLine)(ret:∀ (c:Nat)(k1 k2:Tok)(h':Heap)(tk':Nat),Fr h₀ L h' m→News h₀ L h' ((c,Zk 0 hv.size k1 k2)::(hp,W.listOf (hv.push (.ref c)) (he+1))::rest)→Za ((c,Zk 0 hv.size k1 k2)::(hp,W.listOf (hv.push (.ref c)) (he+1))::rest)→Q (.ref c) {s with heap:=h',toks:=tk'}),
   wpAny (model PR w) (ktrTop dp un gd cn cs L a ccd cl outer) (call (.ref 420) [.ref sto,.ref tm,.ref tb]) Q E s
noncomputable def Um (c:Zf):Prop:=@cF _ (@Zaq) c (c.vj 0) (c.a 4) (c.a 5) (c.a 6) (c.a 7) (c.a 8) (c.a 9) (c.a 10) (c.a 11) (c.a 12) (c.a 13) (c.v 0) (c.vc 0) (c.o 0) (c.o 1) (c.b 0) (c.b 1)
noncomputable def Uo:Zf:=ZM Zj fun c=>Up c∧Un c∧Um c
omit B F X T hk in
theorem ZeI:Up Uo:=by
  delta Up cF
  k_extra "gS"
  exists Zf.a _ _,hp,stk,trl,s_n,sto,stod,sym,tm,tb
  exists Zf.vj _ _,js
  exists Zf.v _ _,ot
  exists Zf.m _ _,v
  exists Zf.o _ _,t1,t2
  exists Zf.b _ _,rest
  intro B F X T hk N D ms1 ms2 mt mb' hts hti lo hdp hun ret
  delta Zy at *
  refine wpAny_call ?_
  k_dflt cell_enter
  k_steps
  rename News _ _ _ _=>nN
  have nD:=Zd nN (by ktr_unf)
  exact ret _ _ _ _ _ (by k_asm) (Zc nN (by ktr_rel)) (Zb nD (by ktr_rel))
omit B F X T hk in
theorem ZeH:Un Uo:=by
  delta Un cF
  k_extra "gS"
  exists Zf.a _ _,hp,stk,trl,s_n,sto,stod,sym,tm,tb
  exists Zf.vj _ _,js
  exists Zf.v _ _,ot
  exists Zf.m _ _,v
  exists Zf.o _ _,t1,t2
  exists Zf.b _ _,rest
  intro B F X T hk N D ms1 ms2 mt mb' hts hti lo hdp hun ret
  delta Zy at *
  refine wpAny_call ?_
  k_dflt cell_enter
  k_steps
  rename News _ _ _ _=>nN
  have nD:=Zd nN (by ktr_unf)
  exact ret _ _ _ _ _ (by k_asm) (Zc nN (by ktr_rel)) (Zb nD (by ktr_rel))
omit B F X T hk in
theorem ZeG:Um Uo:=by
  delta Um cF
  k_extra "gS"
  exists Zf.a _ _,hp,stk,trl,s_n,sto,stod,sym,tm,tb,he
  exists Zf.vj _ _,js
  exists Zf.v _ _,ot
  exists Zf.vc _ _,hv
  exists Zf.o _ _,t1,t2
  exists Zf.b _ _,news,rest
  intro B F X T hk N D P hsz ms1 ms2 mt hts hti lo hdp hun ret
  delta Zy at *
  have hsm:Zl hv:=by unfold Zl;tb_start
  have N₁:News h₀ L s.heap ((hp,W.listOf hv he)::(tb,ot)::rest):=Ze N P.perm
  have D₁:Za ((hp,W.listOf hv he)::(tb,ot)::rest):=D.perm P.perm
  clear N D
  refine wpAny_call ?_
  k_dflt cell_enter
  k_steps
  rename News _ _ _ _=>nN
  have nD:=Zd nN (by ktr_unf)
  exact ret _ _ _ _ _ (by k_asm) (Zc nN (by ktr_rel)) (Zb nD (by ktr_rel))
omit B F X T hk in
theorem VC:∀ c:Zf,Up c∧Un c∧Um c:=ZN (k:=Uo) rfl ⟨ZeI,ZeH,ZeG⟩
omit B F X T hk in
theorem Zhm {js hp stk trl s_n sto stod sym tm tb ot v t1 t2 rest}:@Zas w p loose mean mg mb dp un gd cn cs a ccd cl outer A₀ base h₀ L m s Q E js hp stk trl s_n sto stod sym tm tb ot v t1 t2 rest:=(VC (cS w p loose mean mg mb m gd cn cs ccd cl outer A₀ base h₀ s Q E |>.sa (gt dC.a [dp,un,a,L,hp,stk,trl,s_n,sto,stod,sym,tm,tb]) |>.svj (gt dC.vj [js]) |>.sv (gt dC.v [ot]) |>.sm (gt dC.m [v]) |>.so (gt dC.o [t1,t2]) |>.sb (gt dC.b [rest]))).1
omit B F X T hk in
theorem Zhl {js hp stk trl s_n sto stod sym tm tb ot v t1 t2 rest}:@Zar w p loose mean mg mb dp un gd cn cs a ccd cl outer A₀ base h₀ L m s Q E js hp stk trl s_n sto stod sym tm tb ot v t1 t2 rest:=(VC (cS w p loose mean mg mb m gd cn cs ccd cl outer A₀ base h₀ s Q E |>.sa (gt dC.a [dp,un,a,L,hp,stk,trl,s_n,sto,stod,sym,tm,tb]) |>.svj (gt dC.vj [js]) |>.sv (gt dC.v [ot]) |>.sm (gt dC.m [v]) |>.so (gt dC.o [t1,t2]) |>.sb (gt dC.b [rest]))).2.1
omit B F X T hk in
theorem Zhj {js hp stk trl s_n sto stod sym tm tb he ot hv t1 t2 news rest}:@Zaq w p loose mean mg mb dp un gd cn cs a ccd cl outer A₀ base h₀ L m s Q E js hp stk trl s_n sto stod sym tm tb he ot hv t1 t2 news rest:=(VC (cS w p loose mean mg mb m gd cn cs ccd cl outer A₀ base h₀ s Q E |>.sa (gt dC.a [dp,un,a,L,hp,stk,trl,s_n,sto,stod,sym,tm,tb,he]) |>.svj (gt dC.vj [js]) |>.sv (gt dC.v [ot]) |>.svc (gt dC.vc [hv]) |>.so (gt dC.o [t1,t2]) |>.sb (gt dC.b [news,rest]))).2.2
end
theorem ZnM:True:=by
  walk_at "RST"
  walk_at "G slE"
  walk_at "G dct"
  trivial
section
variable {w:World}{p:Program}{loose:List Str}{mean:ExcName→Option Value}{mg mb:Str→Option Value}
   {dp un:Nat}{gd:Option (List Code)}{cn:Str}{cs:Scope}{a:Addr}{ccd:Value}{cl:List (Str×Addr)}{outer:List Env}{A₀:Around}{base h₀:Heap}{L:Addr}{m:Str→Option Value}{s:Shared}{Q E:Value→Shared→Prop}
   (B:Below A₀ base outer h₀)(F:Fr h₀ L s.heap m)(X:(K w.params).In h₀)(T:Top p loose mean mg mb h₀)(hk:cs.kind = .function)
include B F X T hk
omit B F X T hk
noncomputable def Jm {jf:Hs}{ft8:Tok}{inp outp files alia actn pst f_n flo flod:Nat}{nxt:Int}{n pj cj ce pe idx:Nat}{oin:Obj}{kin:List (Int×Value)}{cv:List Value}{codes:List Int}{ti tn:Tok}{rest:List (Addr×Obj)}:Prop:=∀ (B:Below A₀ base outer h₀)(F:Fr h₀ L s.heap m)(X:(K w.params).In h₀)(T:Top p loose mean mg mb h₀)(hk:cs.kind = .function)(N:News h₀ L s.heap rest)(mf1:(flo,instObj 541 flod)∈rest)(mf2:(flod,ZL jf inp outp files alia actn pst nxt ft8 f_n)∈rest)(mi:(inp,oin)∈rest)(hi:oin.IsDictOf (intKind PR w) kin)(hv:valueAt kin (n:Int)=some (.ref pj))(mp:(pj,W.listOf [.ref cj,.int idx ti].toArray pe)∈rest)(mc:(cj,W.listOf cv.toArray ce)∈rest)(hc:IntsAre cv codes)(hlen:codes.length<50)(hidx:idx<1000)(hdp:dp+10<recursionLimit)(hun:un+60<cLine)(ret:∀ (b:Bool)(h':Heap)(tk':Nat),b=decide (codes.length≤idx)→Fr h₀ L h' m→News h₀ L h' rest→Q (.bool b) {s with heap:=h',toks:=tk'}),
   wpAny (model PR w) (ktrTop dp un gd cn cs L a ccd cl outer) (call (.ref 530) [.ref flo,.int n tn]) Q E s
noncomputable def Y2 (c:Zf):Prop:=@cF _ (@Jm) c (c.vj 0) (c.o 0) (c.a 4) (c.a 5) (c.a 6) (c.a 7) (c.a 8) (c.a 9) (c.a 10) (c.a 11) (c.a 12) (c.m 0) (c.a 13) (c.a 14) (c.a 15) (c.a 16) (c.a 17) (c.a 18) (c.v 0) (c.y 0) (c.u 0) (c.w 0) (c.o 1) (c.o 2) (c.b 0)
noncomputable def Jl:Zf:=ZM Zj Y2
theorem Zad:Y2 Jl:=by
  delta Y2 cF
  k_extra "gS"
  exists Zf.a _ _,inp,outp,files,alia,actn,pst,f_n,flo,flod,n,pj,cj,ce,pe,idx
  exists Zf.vj _ _,jf
  exists Zf.o _ _,ft8,ti,tn
  exists Zf.m _ _,nxt
  exists Zf.v _ _,oin
  exists Zf.y _ _,kin
  exists Zf.u _ _,cv
  exists Zf.w _ _,codes
  exists Zf.b _ _,rest
  intro B F X T hk N mf1 mf2 mi hi hv mp mc hc hlen hidx hdp hun ret
  delta ZL at *
  have hsm:Zl cv.toArray:=by unfold Zl;rw [List.size_toArray,hc.length];tb_start
  have hsz:cv.toArray.size=codes.length:=by rw [List.size_toArray,hc.length]
  refine wpAny_call ?_
  k_dflt cell_enter
  k_steps
  exact ret _ _ _ (by rw [hsz];simp) (by k_asm) (by k_asm)
theorem Vt {jf ft8 inp outp files alia actn pst f_n flo flod nxt n pj cj ce pe idx oin kin cv codes ti tn rest}:@Jm w p loose mean mg mb dp un gd cn cs a ccd cl outer A₀ base h₀ L m s Q E jf ft8 inp outp files alia actn pst f_n flo flod nxt n pj cj ce pe idx oin kin cv codes ti tn rest:=ZN (k:=Jl) rfl Zad (cS w p loose mean mg mb m gd cn cs ccd cl outer A₀ base h₀ s Q E |>.sa (gt dC.a [dp,un,a,L,inp,outp,files,alia,actn,pst,f_n,flo,flod,n,pj,cj,ce,pe,idx]) |>.svj (gt dC.vj [jf]) |>.so (gt dC.o [ft8,ti,tn]) |>.sm (gt dC.m [nxt]) |>.sv (gt dC.v [oin]) |>.sy (gt dC.y [kin]) |>.su (gt dC.u [cv]) |>.sw (gt dC.w [codes]) |>.sb (gt dC.b [rest]))
include B F X T hk
omit B F X T hk
noncomputable def G4 {jf:Hs}{ft8:Tok}{inp outp files alia actn pst f_n flo flod:Nat}{nxt:Int}{n pj cj ce pe idx:Nat}{oin:Obj}{kin:List (Int×Value)}{cv:List Value}{codes:List Int}{ti tn:Tok}{rest:List (Addr×Obj)}:Prop:=∀ (B:Below A₀ base outer h₀)(F:Fr h₀ L s.heap m)(X:(K w.params).In h₀)(T:Top p loose mean mg mb h₀)(hk:cs.kind = .function)(N:News h₀ L s.heap rest)(mf1:(flo,instObj 541 flod)∈rest)(mf2:(flod,ZL jf inp outp files alia actn pst nxt ft8 f_n)∈rest)(mi:(inp,oin)∈rest)(hi:oin.IsDictOf (intKind PR w) kin)(hv:valueAt kin (n:Int)=some (.ref pj))(mp:(pj,W.listOf [.ref cj,.int idx ti].toArray pe)∈rest)(mc:(cj,W.listOf cv.toArray ce)∈rest)(hc:IntsAre cv codes)(hlen:codes.length<50)(hidx:idx<1000)(hdp:dp+10<recursionLimit)(hun:un+60<cLine)(ret:∀ (t:Tok)(h':Heap)(tk':Nat),Fr h₀ L h' m→News h₀ L h' rest→Q (.int (codes.getD idx (-1)) t) {s with heap:=h',toks:=tk'}),
   wpAny (model PR w) (ktrTop dp un gd cn cs L a ccd cl outer) (call (.ref 523) [.ref flo,.int n tn]) Q E s
noncomputable def UP (c:Zf):Prop:=@cF _ (@G4) c (c.vj 0) (c.o 0) (c.a 4) (c.a 5) (c.a 6) (c.a 7) (c.a 8) (c.a 9) (c.a 10) (c.a 11) (c.a 12) (c.m 0) (c.a 13) (c.a 14) (c.a 15) (c.a 16) (c.a 17) (c.a 18) (c.v 0) (c.y 0) (c.u 0) (c.w 0) (c.o 1) (c.o 2) (c.b 0)
noncomputable def G3:Zf:=ZM Zj UP
theorem Zch:UP G3:=by
  delta UP cF
  k_extra "gS"
  exists Zf.a _ _,inp,outp,files,alia,actn,pst,f_n,flo,flod,n,pj,cj,ce,pe,idx
  exists Zf.vj _ _,jf
  exists Zf.o _ _,ft8,ti,tn
  exists Zf.m _ _,nxt
  exists Zf.v _ _,oin
  exists Zf.y _ _,kin
  exists Zf.u _ _,cv
  exists Zf.w _ _,codes
  exists Zf.b _ _,rest
  intro B F X T hk N mf1 mf2 mi hi hv mp mc hc hlen hidx hdp hun ret
  delta ZL at *
  have hsm:Zl cv.toArray:=by unfold Zl;rw [List.size_toArray,hc.length];tb_start
  have hsz:cv.toArray.size=codes.length:=by rw [List.size_toArray,hc.length]
  by_cases hlt:idx<codes.length
  · obtain ⟨tx,hx⟩:=hc.get idx codes[idx] (by simp [hlt])
    have hx':cv.toArray[((idx:Int)).toNat]? = some (.int codes[idx] tx):=by simpa using hx
    have e:codes.getD idx (-1)=codes[idx]:=by simp [hlt]
    rw [e] at ret
    refine wpAny_call ?_
    k_dflt cell_enter
    k_steps
    exact ret _ _ _ (by k_asm) (by k_asm)
  · have e:codes.getD idx (-1) = -1:=by simp [hlt]
    rw [e] at ret
    refine wpAny_call ?_
    k_dflt cell_enter
    k_steps
    exact ret _ _ _ (by k_asm) (by k_asm)
theorem WK {jf ft8 inp outp files alia actn pst f_n flo flod nxt n pj cj ce pe idx oin kin cv codes ti tn rest}:@G4 w p loose mean mg mb dp un gd cn cs a ccd cl outer A₀ base h₀ L m s Q E jf ft8 inp outp files alia actn pst f_n flo flod nxt n pj cj ce pe idx oin kin cv codes ti tn rest:=ZN (k:=G3) rfl Zch (cS w p loose mean mg mb m gd cn cs ccd cl outer A₀ base h₀ s Q E |>.sa (gt dC.a [dp,un,a,L,inp,outp,files,alia,actn,pst,f_n,flo,flod,n,pj,cj,ce,pe,idx]) |>.svj (gt dC.vj [jf]) |>.so (gt dC.o [ft8,ti,tn]) |>.sm (gt dC.m [nxt]) |>.sv (gt dC.v [oin]) |>.sy (gt dC.y [kin]) |>.su (gt dC.u [cv]) |>.sw (gt dC.w [codes]) |>.sb (gt dC.b [rest]))
include B F X T hk
end
theorem ZnL:True:=by
  walk_at "RST"
  walk_at "G slE"
  trivial
section
variable {prog:Program}{w:World}{A:Around}{E:Value→Shared→Prop}{s:Shared}{h₀:Heap}{L d:Addr}{o:Obj}{news:List (Addr×Obj)}{kvs:List (Int×Value)}{k:Int}{t:Tok}
theorem ZgB {b:Bool}{Q:Value→Shared→Prop}(N:News h₀ L s.heap news)(hp:(d,o)∈news)(hd:o.IsDictOf (intKind prog w) kvs)(lo:(d==sysModules)=false)(hb:(valueAt kvs k).isSome=b)(h:Q (.bool b) {s with toks:=s.toks+1}) :
    wpAny (model prog w) A (compareOp .In (.int k t) (.ref d)) Q E s:=kda_in N hp hd lo (intKind_is _ _ _ _) b hb h
theorem Ze5 {x:Value}{dflt:Value}{Q:Value→Shared→Prop}(N:News h₀ L s.heap news)(hp:(d,o)∈news)(hd:o.IsDictOf (intKind prog w) kvs)(lo:(d==sysModules)=false)(hl:valueAt kvs k=some x)(h:Q x {s with toks:=s.toks+1}) :
    wpAny (model prog w) A (call (.builtin "dict.get") [.ref d,.int k t,dflt]) Q E s:=kdg_get2 N hp hd lo (intKind_is _ _ _ _) (some x) hl h
end
theorem Zgt {b:Bool}{p:Prop} [Decidable p](hb:b=decide p)(h:b=true):p:=of_decide_eq_true (hb ▸ h)
theorem UQ {b:Bool}{p:Prop} [Decidable p](hb:b=decide p)(h:b=false):¬ p:=of_decide_eq_false (hb ▸ h)
theorem Zi {base G h:Heap}{l:List Env}{e d:Addr}{cls:Value}{ld R j:List (Addr×Obj)}(x:RaisedD base G l e cls d ld h)(a:Tk R ld j):RaisedD base G l e cls d R h:=by
  obtain ⟨⟨B,a0,h1,h2,h3,h4⟩,y⟩:=x
  exact ⟨⟨B,a0,h1,h2,fun q hq=>h3 q ((List.Perm.mem_iff a.perm).mpr (List.mem_append_left _ hq)),h4⟩,y⟩
noncomputable def Jp (TX:List Str)(FN:List (Int×Int))(n:Int)(dd:W.Dat):Prop:=∃ (d1 d2:W.Dat)(f i1:Nat),Zv TX (.ofString "input") d1∧Zv TX (.ofString "past_end_of_stream") d2∧TX[i1]? = some (.ofString "$stream")∧FN[f]? = some ((i1:Int),1)∧ZG TX FN (.ofString "permission_error") [d1,d2,YU f [UZ n]] dd
theorem Zal {a b c:Addr×Obj}{S l rest:List (Addr×Obj)}(h:ExtA S l rest):Tk (S++[a,b,c]) (a::b::c::l) rest:=⟨by
  have e:(S++[a,b,c])++rest=S++([a,b,c]++rest):=by rw [List.append_assoc]
  rw [e]
  refine List.Perm.trans (List.Perm.append_left [a,b,c] h.perm) ?_
  exact List.perm_append_comm_assoc [a,b,c] S rest⟩
theorem ZnK:True:=by
  walk_at "G dct"
  trivial
section
variable {w:World}{p:Program}{loose:List Str}{mean:ExcName→Option Value}{mg mb:Str→Option Value}
   {dp un:Nat}{gd:Option (List Code)}{cn:Str}{cs:Scope}{a:Addr}{ccd:Value}{cl:List (Str×Addr)}{outer:List Env}{A₀:Around}{base h₀:Heap}{L:Addr}{m:Str→Option Value}{s:Shared}{Q E:Value→Shared→Prop}
   (B:Below A₀ base outer h₀)(F:Fr h₀ L s.heap m)(X:(K w.params).In h₀)(T:Top p loose mean mg mb h₀)(hk:cs.kind = .function)
include B F X T hk
theorem ZnJ:True:=by
  k_with "call ref" =>(k_here;(with_reducible show wpAny _ _ (call (Value.ref 530) _) _ _ _);k_dflt (refine' Vt (B:=?zB) (F:=?zF) (X:=?zX) (T:=?zT) (hk:=?zhk) (N:=?zN) (hdp:=?zhdp) (hun:=?zhun) (mf1:=?zmf1) (mf2:=?zmf2) (mi:=?zmi) (mp:=?zmp) (mc:=?zmc) (hi:=?zhi) (hv:=?zhv) (hc:=?zhc) (hlen:=?zhlen) (hidx:=?zhidx) (ret:=?_);k_extra "z6";(case zmf1=>k_mem);(case zmf2=>k_mem);(case zmi=>k_mem);(case zmp=>k_mem);(case zmc=>k_mem);(case zhi=>first|with_reducible assumption|k_asm);(case zhv=>first|with_reducible assumption|k_asm);(case zhc=>first|with_reducible assumption|k_asm);(case zhlen=>tb_start);(case zhidx=>tb_start);(case zhdp=>ktr_room);(case zhun=>ktr_units));intro b' h' tk' hb' F' N';(try dsimp only))
  k_with "call ref" =>(k_here;(with_reducible show wpAny _ _ (call (Value.ref 523) _) _ _ _);k_dflt (refine' WK (B:=?zB) (F:=?zF) (X:=?zX) (T:=?zT) (hk:=?zhk) (N:=?zN) (hdp:=?zhdp) (hun:=?zhun) (mf1:=?zmf1) (mf2:=?zmf2) (mi:=?zmi) (mp:=?zmp) (mc:=?zmc) (hi:=?zhi) (hv:=?zhv) (hc:=?zhc) (hlen:=?zhlen) (hidx:=?zhidx) (ret:=?_);k_extra "z6";(case zmf1=>k_mem);(case zmf2=>k_mem);(case zmi=>k_mem);(case zmp=>k_mem);(case zmc=>k_mem);(case zhi=>first|with_reducible assumption|k_asm);(case zhv=>first|with_reducible assumption|k_asm);(case zhc=>first|with_reducible assumption|k_asm);(case zhlen=>tb_start);(case zhidx=>tb_start);(case zhdp=>ktr_room);(case zhun=>ktr_units));intro t' h' tk' F' N';(try dsimp only))
  k_with "call ref" =>(k_here;(with_reducible show wpAny _ _ (call (Value.ref 109) _) _ _ _);k_dflt (refine' ZQ (B:=?zB) (F:=?zF) (X:=?zX) (T:=?zT) (hk:=?zhk) (N:=?zN) (hdp:=?zhdp) (hun:=?zhun) (hm1:=?zhm1) (hm2:=?zhm2) (hS:=?zhS) (P:=?zP) (D:=?zD) (hb:=?zhb) (hb':=?zhb') (ret:=?_);k_extra "z6";(case zhS=>first|with_reducible assumption|k_asm);(case zP=>ktr_rel);(case zhm1=>k_mem);(case zhm2=>k_mem);(case zhb=>tb_start);(case zhb'=>tb_start);(case zhdp=>ktr_room);(case zhun=>ktr_units);(case zD=>ktr_unf));intro i' t' ia' TX' FN' S' h' tk' hia' hi' pre' len' pref' lenf' hS' F' N' D';(try dsimp only))
  k_with "call ref" =>(k_here;(with_reducible show wpAny _ _ (call (Value.ref 221) _) _ _ _);k_dflt (refine' Zbg (B:=?zB) (F:=?zF) (X:=?zX) (T:=?zT) (hk:=?zhk) (N:=?zN) (hdp:=?zhdp) (hun:=?zhun) (hm1:=?zhm1) (hm2:=?zhm2) (hS:=?zhS) (P:=?zP) (D:=?zD) (hc:=?zhc) (hcd:=?zhcd) (hb:=?zhb) (hb':=?zhb') (ret:=?_);k_extra "z6";(case zhS=>first|with_reducible assumption|k_asm);(case zP=>exact Zal (by ktr_rel));(case zhm1=>k_mem);(case zhm2=>k_mem);(case zhc=>k_mem);(case zhcd=>kqd_in);(case zhb=>tb_start);(case zhb'=>tb_start);(case zhdp=>ktr_room);(case zhun=>ktr_units);(case zD=>ktr_unf));intro e' d' t' bv' hsh' tk' TX' FN' S' TT' d1' d2' dd' h' tkk' hS' F' N' D' hdd' hsub' hw1' hw2' her' pre' len' pref' lenf';(try dsimp only))
  trivial
omit B F X T hk
noncomputable def GY {sto sym sd tl an fl fn n:Nat}{jy jf:Hs}{ft8:Tok}{inp outp files alia actn pst f_n flo flod:Nat}{nxt:Int}{jm:Hs}{mcode xl grd rts bgs dbs m_n mad mmd:Nat}{jd:Hs}{oprs flgs d_n dbd sn pj cj ce pe idx:Nat}{oin ops oac:Obj}{kin kps kac:List (Int×Value)}{past:Bool}{act:Str}{cv:List Value}{codes:List Int}{ti tn ta:Tok}{TX:List Str}{FN:List (Int×Int)}{S news rest:List (Addr×Obj)}:Prop:=∀ (B:Below A₀ base outer h₀)(F:Fr h₀ L s.heap m)(X:(K w.params).In h₀)(T:Top p loose mean mg mb h₀)(hk:cs.kind = .function)(N:News h₀ L s.heap news)(P:Tk S news rest)(hS:Zh w tl an fl fn TX FN S)(D:Za news)(hm1:(sym,instObj 154 sd)∈rest)(hm2:(sd,Zq jy tl an fl fn n)∈rest)(mm1:(mad,instObj 1104 mmd)∈rest)(mm2:(mmd,ZB jm sym mcode sto xl grd rts bgs dbs m_n)∈rest)(md1:(dbs,instObj 1083 dbd)∈rest)(md2:(dbd,Z8 jd flo oprs flgs d_n)∈rest)(mf1:(flo,instObj 541 flod)∈rest)(mf2:(flod,ZL jf inp outp files alia actn pst nxt ft8 f_n)∈rest)(mi:(inp,oin)∈rest)(hi:oin.IsDictOf (intKind PR w) kin)(hv:valueAt kin (sn:Int)=some (.ref pj))(mp:(pj,W.listOf [.ref cj,.int idx ti].toArray pe)∈rest)(mc:(cj,W.listOf cv.toArray ce)∈rest)(hc:IntsAre cv codes)(hlen:codes.length<50)(hidx:idx<1000)(mps:(pst,ops)∈rest)(hps:ops.IsDictOf (intKind PR w) kps)(hpb:(valueAt kps (sn:Int)).isSome=past)(lop:(pst==sysModules)=false)(mac:(actn,oac)∈rest)(hac:oac.IsDictOf (intKind PR w) kac)(hva:valueAt kac (sn:Int)=some (.str act ta))(loa:(actn==sysModules)=false)(hb:TX.length<30000)(hb':FN.length<30000)(hdp:dp+50<recursionLimit)(hun:un+300<cLine)(ret:∀ (h':Heap)(tk':Nat),¬ (past=true∧codes.length≤idx∧act=Str.ofString "error")→Fr h₀ L h' m→News h₀ L h' (S++rest)→Za (S++rest)→Q .none {s with heap:=h',toks:=tk'})(exc:∀ (e d bv:Nat)(hsh:Int)(tk:Tok)(TX':List Str)(FN':List (Int×Int))(S' TT':List (Addr×Obj))(dd:W.Dat)(g' h':Heap)(tk':Nat),past=true→codes.length≤idx→act=Str.ofString "error" →Zh w tl an fl fn TX' FN' S'→Fr h₀ L g' m →
      RaisedD base g' (envX cn cs L a ccd cl::outer) e (.ref 51) d ((d,dictOf [⟨hsh,.str ball tk,.ref bv⟩] 1)::(S'++(TT'++rest))) h'→g'.UpToSlots h'→Za ((d,dictOf [⟨hsh,.str ball tk,.ref bv⟩] 1)::(S'++(TT'++rest))) →
      W.DatIn TT' (.ref bv) dd→Jp TX' FN' sn dd→TX<+:TX'→TX'.length≤TX.length+4→FN<+:FN'→FN'.length≤FN.length+2→E (.ref e) {s with heap:=h',toks:=tk'}),
   wpAny (model PR w) (ktrTop dp un gd cn cs L a ccd cl outer) (call (.ref 559) [.ref mad,.int sn tn]) Q E s
noncomputable def UO (c:Zf):Prop:=@cF _ (@GY) c (c.a 4) (c.a 5) (c.a 6) (c.a 7) (c.a 8) (c.a 9) (c.a 10) (c.a 11) (c.vj 0) (c.vj 1) (c.o 0) (c.a 12) (c.a 13) (c.a 14) (c.a 15) (c.a 16) (c.a 17) (c.a 18) (c.a 19) (c.a 20) (c.m 0) (c.vj 2) (c.a 21) (c.a 22) (c.a 23) (c.a 24) (c.a 25) (c.a 26) (c.a 27) (c.a 28) (c.a 29) (c.vj 3) (c.a 30) (c.a 31) (c.a 32) (c.a 33) (c.a 34) (c.a 35) (c.a 36) (c.a 37) (c.a 38) (c.a 39) (c.v 0) (c.v 1) (c.v 2) (c.y 0) (c.y 1) (c.y 2) (c.z 0) (c.n 1) (c.u 0) (c.w 0) (c.o 1) (c.o 2) (c.o 3) (c.h 1) (c.t 0) (c.b 0) (c.b 1) (c.b 2)
noncomputable def GX:Zf:=ZM Zj UO
theorem Zcb:UO GX:=by
  delta UO cF
  k_extra "gS"
  exists Zf.h _ _,TX
  exists Zf.a _ _,sto,sym,sd,tl,an,fl,fn,n,inp,outp,files,alia,actn,pst,f_n,flo,flod,mcode,xl,grd,rts,bgs,dbs,m_n,mad,mmd,oprs,flgs,d_n,dbd,sn,pj,cj,ce,pe,idx
  exists Zf.n _ _,act
  exists Zf.vj _ _,jy,jf,jm,jd
  exists Zf.o _ _,ft8,ti,tn,ta
  exists Zf.m _ _,nxt
  exists Zf.v _ _,oin,ops,oac
  exists Zf.y _ _,kin,kps,kac
  exists Zf.z _ _,past
  exists Zf.u _ _,cv
  exists Zf.w _ _,codes
  exists Zf.t _ _,FN
  exists Zf.b _ _,S,news,rest
  intro B F X T hk N P hS D hm1 hm2 mm1 mm2 md1 md2 mf1 mf2 mi hi hv mp mc hc hlen hidx mps hps hpb lop mac hac hva loa hb hb' hdp hun ret exc
  delta Zq ZL ZB Z8 at *
  have N₁:News h₀ L s.heap (S++rest):=Ze N P.perm
  have D₁:Za (S++rest):=D.perm P.perm
  clear N D P
  refine wpAny_call ?_
  k_dflt cell_enter
  k_steps
  · rename RaisedD _ _ _ _ _ _ _ _=>nR
    rename Za _=>nD
    exact exc _ _ _ _ _ _ _ _ _ _ _ _ _ (by assumption) (Zgt (by assumption) (by assumption)) (eq_of_beq (by assumption)) (by assumption) (by k_asm) (Zi nR (by ktr_rel)) (by assumption) (Zb nD (by ktr_rel)) (by assumption)
      ⟨_,_,_,_,by assumption,by assumption,Zx (by assumption) (by assumption),Zx (by assumption) (by assumption),by assumption⟩ (List.IsPrefix.trans (by assumption) (by assumption)) (by tb_start) (List.IsPrefix.trans (by assumption) (by assumption)) (by tb_start)
  · refine ret _ _ (fun hh=>?_) (by k_asm) (by k_asm) D₁
    exact absurd hh.2.2 (ne_of_beq_false (by assumption))
  · refine ret _ _ (fun hh=>?_) (by k_asm) (by k_asm) D₁
    exact absurd hh.2.1 (UQ (by assumption) (by assumption))
  · refine ret _ _ (fun hh=>?_) (by k_asm) (by k_asm) D₁
    exact Bool.noConfusion (hh.1.symm.trans (by assumption))
theorem Zcc {sto sym sd tl an fl fn n jy jf ft8 inp outp files alia actn pst f_n flo flod nxt jm mcode xl grd rts bgs dbs m_n mad mmd jd oprs flgs d_n dbd sn pj cj ce pe idx oin ops oac kin kps kac past act cv codes ti tn ta TX FN S news rest}:@GY w p loose mean mg mb dp un gd cn cs a ccd cl outer A₀ base h₀ L m s Q E sto sym sd tl an fl fn n jy jf ft8 inp outp files alia actn pst f_n flo flod nxt jm mcode xl grd rts bgs dbs m_n mad mmd jd oprs flgs d_n dbd sn pj cj ce pe idx oin ops oac kin kps kac past act cv codes ti tn ta TX FN S news rest:=ZN (k:=GX) rfl Zcb (cS w p loose mean mg mb m gd cn cs ccd cl outer A₀ base h₀ s Q E |>.sh (gt dC.h [loose,TX]) |>.sa (gt dC.a [dp,un,a,L,sto,sym,sd,tl,an,fl,fn,n,inp,outp,files,alia,actn,pst,f_n,flo,flod,mcode,xl,grd,rts,bgs,dbs,m_n,mad,mmd,oprs,flgs,d_n,dbd,sn,pj,cj,ce,pe,idx]) |>.sn (gt dC.n [cn,act]) |>.svj (gt dC.vj [jy,jf,jm,jd]) |>.so (gt dC.o [ft8,ti,tn,ta]) |>.sm (gt dC.m [nxt]) |>.sv (gt dC.v [oin,ops,oac]) |>.sy (gt dC.y [kin,kps,kac]) |>.sz (gt dC.z [past]) |>.su (gt dC.u [cv]) |>.sw (gt dC.w [codes]) |>.st (gt dC.t [FN]) |>.sb (gt dC.b [S,news,rest]))
include B F X T hk
end
theorem ZnI:True:=by
  walk_at "RST"
  walk_at "G slE"
  trivial
noncomputable def YB (TX:List Str)(FN:List (Int×Int))(x:Str)(dd:W.Dat):Prop:=∃ d1,Zv TX x d1∧ZG TX FN (.ofString "representation_error") [d1] dd
noncomputable def Jq (TX:List Str)(FN:List (Int×Int))(n:Int)(past:Bool)(codes:List Int)(idx:Nat)(act:Str)(dd:W.Dat):Prop :=
  (past=true∧codes.length≤idx∧act=Str.ofString "error" ∧Jp TX FN n dd)∨(idx<codes.length∧1114111<codes.getD idx (-1)∧YB TX FN (.ofString "character") dd)
noncomputable def Y4 (past:Bool)(codes:List Int)(idx:Nat)(act:Str):Prop:=¬ (past=true∧codes.length≤idx∧act=Str.ofString "error")∧¬ (idx<codes.length∧1114111<codes.getD idx (-1))
noncomputable def Zt (mv:Bool)(len idx:Nat):Nat:=if mv=true∧idx<len then idx+1 else idx
noncomputable def Zs (mv past:Bool)(len idx:Nat):Bool:=if mv=true∧len≤idx then true else past
noncomputable def Zr (w:World)(n:Int)(kps kps':List (Int×Value))(o:Obj)(b:Bool):Prop:=o.IsDictOf (intKind PR w) kps'∧(valueAt kps' n).isSome=b∧(∀ k,k≠n→valueAt kps' k=valueAt kps k)∧kps'.length≤kps.length+1
theorem Uu {codes:List Int}(h:∀ c∈codes,0≤c){i:Nat}(hi:i<codes.length):0≤codes.getD i (-1):=by
  have e:codes.getD i (-1)=codes[i]:=by simp [hi]
  rw [e]
  exact h _ (List.getElem_mem hi)
theorem UT {mv:Bool}{len idx:Nat}(h:len≤idx):Zt mv len idx=idx:=if_neg fun x=>absurd x.2 (Nat.not_lt.mpr h)
theorem Zaz {len idx:Nat}(h:¬ len≤idx):((Zt true len idx:Nat):Int)=(idx:Int)+1:=by rw [Zt,if_pos ⟨rfl,Nat.lt_of_not_le h⟩];rfl
theorem Zck {len idx:Nat}:Zt false len idx=idx:=if_neg fun x=>by simp at x
theorem Zbl {past:Bool}{len idx:Nat}(h:len≤idx):Zs true past len idx=true:=if_pos ⟨rfl,h⟩
theorem US {mv past:Bool}{len idx:Nat}(h:¬ len≤idx):Zs mv past len idx=past:=if_neg fun x=>h x.2
theorem Zbk {past:Bool}{len idx:Nat}:Zs false past len idx=past:=if_neg fun x=>by simp at x
theorem UR {mv past:Bool}{len idx:Nat}(h:past=true):Zs mv past len idx=past:=by unfold Zs;split <;> simp [h]
theorem ZC (k:Int)(x:Int×Value)(l:List (Int×Value)):valueAt (x::l) k=if x.1=k then some x.2 else valueAt l k:=by
  unfold valueAt
  rw [List.find?_cons]
  by_cases h:x.1=k
  · simp [h]
  · simp [h]
theorem VV (k n:Int)(v:Value):∀ l:List (Int×Value),valueAt (l++[(n,v)]) k=(valueAt l k).or (if n=k then some v else none)
  | []=>by rw [List.nil_append,ZC];rfl
  | x::l=>by
    rw [List.cons_append,ZC,ZC,VV k n v l]
    by_cases h:x.1=k
    · simp [h]
    · simp [h]
theorem VU (k n:Int)(v:Value):∀ l:List (Int×Value),valueAt (l.map fun kv=>if kv.1=n then (kv.1,v) else kv) k=if k=n then (valueAt l k).map (fun _=>v) else valueAt l k
  | []=>by simp [valueAt]
  | x::l=>by
    rw [List.map_cons,ZC,ZC,VU k n v l]
    by_cases h:x.1=n
    · by_cases h2:k=n
      · subst h2;simp [h]
      · have:¬ n=k:=fun e=>h2 e.symm
        simp [h,h2,this]
    · by_cases h2:k=n
      · subst h2;simp [h]
      · simp [h,h2]
theorem Uh (n:Int):∀ l:List (Int×Value),l.any (fun kv=>kv.1=n)=(valueAt l n).isSome
  | []=>by simp [valueAt]
  | x::l=>by
    rw [List.any_cons,ZC,Uh n l]
    by_cases h:x.1=n
    · simp [h]
    · simp [h]
theorem Zm (n:Int)(v:Value)(l:List (Int×Value))(k:Int):valueAt (stored l n v) k=if k=n then some v else valueAt l k:=by
  unfold stored
  rw [Uh]
  cases hs:valueAt l n with
  | none =>
    simp only [Option.isSome_none,Bool.false_eq_true,if_false]
    rw [VV]
    by_cases h:k=n
    · subst h;simp [hs]
    · have:¬ n=k:=fun e=>h e.symm
      simp [h,this]
  | some y =>
    simp only [Option.isSome_some,if_true]
    rw [VU]
    by_cases h:k=n
    · subst h;simp [hs]
    · simp [h]
theorem Yb (n:Int)(v:Value)(l:List (Int×Value)):(stored l n v).length≤l.length+1:=by
  unfold stored
  split <;> simp
theorem WJ {w:World}{n:Int}{kps:List (Int×Value)}{v:Value}{o:Obj}(h:o.IsDictOf (intKind PR w) (stored kps n v)):Zr w n kps (stored kps n v) o true :=
  ⟨h,by rw [Zm];simp,fun k hk=>by rw [Zm,if_neg hk],Yb _ _ _⟩
theorem Zn {w:World}{n:Int}{kps:List (Int×Value)}{o:Obj}{b:Bool}(h:o.IsDictOf (intKind PR w) kps)(e:(valueAt kps n).isSome=b):Zr w n kps kps o b:=⟨h,e,fun _ _=>rfl,Nat.le_succ _⟩
section
variable {prog:Program}{w:World}{A:Around}{E:Value→Shared→Prop}{s:Shared}{h₀:Heap}{L l:Addr}{m:Str→Option Value}{news news':List (Addr×Obj)}{vs:List Value}{n:Nat}{k:Int}{u:Tok}{x:Value}
theorem JK {j:Nat}{Q:Value→Shared→Prop}(N:News h₀ L s.heap news)(hm:(l,W.listOf vs.toArray n)∈news)(h0:0≤k)(hfit:k<2 ^ 63)(hj:k.toNat=j)(hx:vs[j]? = some x)(h:Q x s):wpAny (model prog w) A (getItem (.ref l) (.int k u)) Q E s :=
  UY N hm h0 hfit (by subst hj;simpa using hx) h
theorem GK {Q:Unit→Shared→Prop}{j:Nat}{vs':List Value}(F:Fr h₀ L s.heap m)(N:News h₀ L s.heap news)(U:Upd l (W.listOf vs.toArray n) (W.listOf vs'.toArray n) news news')(h0:0≤k)(hf:k<2 ^ 63)(hj:k.toNat=j)(hl:j<vs.length)(hx:vs.set j x=vs')
    (h:∀ h',Fr h₀ L h' m→News h₀ L h' news'→Q () {s with heap:=h'}):wpAny (model prog w) A (setItem (.ref l) (.int k u) x) Q E s:=by
  subst hj
  refine Zao (its:=vs.toArray) (n:=n) F N ?_ h0 hf (by rw [List.size_toArray];tb_start) h
  rw [List.setIfInBounds_toArray,hx]
  exact U
end
theorem ZnH:True:=by
  walk_at "G dct"
  trivial
section
variable {w:World}{p:Program}{loose:List Str}{mean:ExcName→Option Value}{mg mb:Str→Option Value}
   {dp un:Nat}{gd:Option (List Code)}{cn:Str}{cs:Scope}{a:Addr}{ccd:Value}{cl:List (Str×Addr)}{outer:List Env}{A₀:Around}{base h₀:Heap}{L:Addr}{m:Str→Option Value}{s:Shared}{Q E:Value→Shared→Prop}
   (B:Below A₀ base outer h₀)(F:Fr h₀ L s.heap m)(X:(K w.params).In h₀)(T:Top p loose mean mg mb h₀)(hk:cs.kind = .function)
include B F X T hk
theorem ZnG:True:=by
  k_with "call ref" =>(k_here;(with_reducible show wpAny _ _ (call (Value.ref 530) _) _ _ _);k_dflt (refine' Vt (B:=?zB) (F:=?zF) (X:=?zX) (T:=?zT) (hk:=?zhk) (N:=?zN) (hdp:=?zhdp) (hun:=?zhun) (mf1:=?zmf1) (mf2:=?zmf2) (mi:=?zmi) (mp:=?zmp) (mc:=?zmc) (hi:=?zhi) (hv:=?zhv) (hc:=?zhc) (hlen:=?zhlen) (hidx:=?zhidx) (ret:=?_);k_extra "z6";(case zmf1=>k_mem);(case zmf2=>k_mem);(case zmi=>k_mem);(case zmp=>k_mem);(case zmc=>k_mem);(case zhi=>first|with_reducible assumption|k_asm);(case zhv=>first|with_reducible assumption|k_asm);(case zhc=>first|with_reducible assumption|k_asm);(case zhlen=>tb_start);(case zhidx=>tb_start);(case zhdp=>ktr_room);(case zhun=>ktr_units));intro b' h' tk' hb' F' N';(try dsimp only))
  k_with "call ref" =>(k_here;(with_reducible show wpAny _ _ (call (Value.ref 523) _) _ _ _);k_dflt (refine' WK (B:=?zB) (F:=?zF) (X:=?zX) (T:=?zT) (hk:=?zhk) (N:=?zN) (hdp:=?zhdp) (hun:=?zhun) (mf1:=?zmf1) (mf2:=?zmf2) (mi:=?zmi) (mp:=?zmp) (mc:=?zmc) (hi:=?zhi) (hv:=?zhv) (hc:=?zhc) (hlen:=?zhlen) (hidx:=?zhidx) (ret:=?_);k_extra "z6";(case zmf1=>k_mem);(case zmf2=>k_mem);(case zmi=>k_mem);(case zmp=>k_mem);(case zmc=>k_mem);(case zhi=>first|with_reducible assumption|k_asm);(case zhv=>first|with_reducible assumption|k_asm);(case zhc=>first|with_reducible assumption|k_asm);(case zhlen=>tb_start);(case zhidx=>tb_start);(case zhdp=>ktr_room);(case zhun=>ktr_units));intro t' h' tk' F' N';(try dsimp only))
  k_with "call ref" =>(k_here;(with_reducible show wpAny _ _ (call (Value.ref 228) _) _ _ _);k_dflt (refine' VB (B:=?zB) (F:=?zF) (X:=?zX) (T:=?zT) (hk:=?zhk) (N:=?zN) (hdp:=?zhdp) (hun:=?zhun) (hm1:=?zhm1) (hm2:=?zhm2) (hS:=?zhS) (P:=?zP) (D:=?zD) (hb:=?zhb) (hb':=?zhb') (ret:=?_);k_extra "z6";(case zhS=>first|with_reducible assumption|k_asm);(case zP=>ktr_rel);(case zhm1=>k_mem);(case zhm2=>k_mem);(case zhb=>tb_start);(case zhb'=>tb_start);(case zhdp=>ktr_room);(case zhun=>ktr_units);(case zD=>ktr_unf));intro e' d' t' bv' hsh' tk' TX' FN' S' TT' d1' dd' h' tkk' hS' F' N' D' hdd' hsub' hw1' her' pre' len' pref' lenf';(try dsimp only))
  k_with "call ref" =>(k_here;(with_reducible show wpAny _ _ (call (Value.ref 559) _) _ _ _);k_dflt (refine' Zcc (B:=?zB) (F:=?zF) (X:=?zX) (T:=?zT) (hk:=?zhk) (N:=?zN) (hdp:=?zhdp) (hun:=?zhun) (hm1:=?zhm1) (hm2:=?zhm2) (mm1:=?zmm1) (mm2:=?zmm2) (md1:=?zmd1) (md2:=?zmd2) (mf1:=?zmf1) (mf2:=?zmf2) (mi:=?zmi) (mp:=?zmp) (mc:=?zmc) (mps:=?zmps) (mac:=?zmac) (hS:=?zhS) (hi:=?zhi) (hv:=?zhv) (hc:=?zhc) (hps:=?zhps) (hpb:=?zhpb) (lop:=?zlop) (hac:=?zhac) (hva:=?zhva) (loa:=?zloa) (P:=?zP) (D:=?zD) (hlen:=?zhlen) (hidx:=?zhidx) (hb:=?zhb) (hb':=?zhb') (ret:=fun h' tk' hok' F' N' D'=>?_) (exc:=fun e' d' bv' hsh' tk' TX' FN' S' TT' dd' g' h' tkk' hp1' hp2' hp3' hS' F' R' U' D' hdd' hpo' pre' len' pref' lenf'=>?_);k_extra "z6";(case zhS=>first|with_reducible assumption|k_asm);(case zP=>ktr_rel);(case zhm1=>k_mem);(case zhm2=>k_mem);(case zmm1=>k_mem);(case zmm2=>k_mem);(case zmd1=>k_mem);(case zmd2=>k_mem);(case zmf1=>k_mem);(case zmf2=>k_mem);(case zmi=>k_mem);(case zmp=>k_mem);(case zmc=>k_mem);(case zmps=>k_mem);(case zmac=>k_mem);(case zhi=>first|with_reducible assumption|k_asm);(case zhv=>first|with_reducible assumption|k_asm);(case zhc=>first|with_reducible assumption|k_asm);(case zhps=>first|with_reducible assumption|k_asm);(case zhpb=>first|with_reducible assumption|k_asm);(case zlop=>first|with_reducible assumption|k_asm);(case zhac=>first|with_reducible assumption|k_asm);(case zhva=>first|with_reducible assumption|k_asm);(case zloa=>first|with_reducible assumption|k_asm);(case zhlen=>tb_start);(case zhidx=>tb_start);(case zhb=>tb_start);(case zhb'=>tb_start);(case zhdp=>ktr_room);(case zhun=>ktr_units);(case zD=>ktr_unf));all_goals (try dsimp only))
  trivial
omit B F X T hk
noncomputable def JM {sto sym sd tl an fl fn n:Nat}{jy jf:Hs}{ft8:Tok}{inp outp files alia actn pst f_n flo flod:Nat}{nxt:Int}{jm:Hs}{mcode xl grd rts bgs dbs m_n mad mmd:Nat}{jd:Hs}{oprs flgs d_n dbd sn pj cj ce pe idx:Nat}{oin ops oac:Obj}{kin kps kac:List (Int×Value)}{past:Bool}{act:Str}{cv:List Value}{codes:List Int}{ti tn ta:Tok}{TX:List Str}{FN:List (Int×Int)}{S news rest:List (Addr×Obj)}:Prop:=∀ (B:Below A₀ base outer h₀)(F:Fr h₀ L s.heap m)(X:(K w.params).In h₀)(T:Top p loose mean mg mb h₀)(hk:cs.kind = .function)(N:News h₀ L s.heap news)(P:Tk ((pj,W.listOf [.ref cj,.int idx ti].toArray pe)::(pst,ops)::S) news rest)(hS:Zh w tl an fl fn TX FN S)(D:Za news)(hm1:(sym,instObj 154 sd)∈rest)(hm2:(sd,Zq jy tl an fl fn n)∈rest)(mm1:(mad,instObj 1104 mmd)∈rest)(mm2:(mmd,ZB jm sym mcode sto xl grd rts bgs dbs m_n)∈rest)(md1:(dbs,instObj 1083 dbd)∈rest)(md2:(dbd,Z8 jd flo oprs flgs d_n)∈rest)(mf1:(flo,instObj 541 flod)∈rest)(mf2:(flod,ZL jf inp outp files alia actn pst nxt ft8 f_n)∈rest)(mi:(inp,oin)∈rest)(hi:oin.IsDictOf (intKind PR w) kin)(hv:valueAt kin (sn:Int)=some (.ref pj))(mc:(cj,W.listOf cv.toArray ce)∈rest)(hc:IntsAre cv codes)(hlen:codes.length<50)(hidx:idx<1000)(hnn:∀ c∈codes,0≤c)(hps:ops.IsDictOf (intKind PR w) kps)(hpb:(valueAt kps (sn:Int)).isSome=past)(lop:(pst==sysModules)=false)(hpz:kps.length<1000)(mac:(actn,oac)∈rest)(hac:oac.IsDictOf (intKind PR w) kac)(hva:valueAt kac (sn:Int)=some (.str act ta))(loa:(actn==sysModules)=false)(hb:TX.length<30000)(hb':FN.length<30000)(hdp:dp+70<recursionLimit)(hun:un+400<cLine)(ret:∀ (t ti':Tok)(pe':Nat)(kps':List (Int×Value))(ops':Obj)(h':Heap)(tk':Nat),Y4 past codes idx act→Zr w sn kps kps' ops' (Zs true past codes.length idx)→Fr h₀ L h' m→News h₀ L h' ((pj,W.listOf [.ref cj,.int (Zt true codes.length idx) ti'].toArray pe')::(pst,ops')::(S++rest))→Za ((pj,W.listOf [.ref cj,.int (Zt true codes.length idx) ti'].toArray pe')::(pst,ops')::(S++rest))→Q (.int (codes.getD idx (-1)) t) {s with heap:=h',toks:=tk'})(exc:∀ (e d bv:Nat)(hsh:Int)(tk ti':Tok)(pe':Nat)(kps':List (Int×Value))(ops':Obj)(TX':List Str)(FN':List (Int×Int))(S' TT':List (Addr×Obj))(dd:W.Dat)(g' h':Heap)(tk':Nat),Jq TX' FN' sn past codes idx act dd→Zr w sn kps kps' ops' (Zs true past codes.length idx)→Zh w tl an fl fn TX' FN' S'→Fr h₀ L g' m →
      RaisedD base g' (envX cn cs L a ccd cl::outer) e (.ref 51) d ((d,dictOf [⟨hsh,.str ball tk,.ref bv⟩] 1)::(pj,W.listOf [.ref cj,.int (Zt true codes.length idx) ti'].toArray pe')::(pst,ops')::(S'++(TT'++rest))) h'→g'.UpToSlots h'→Za ((d,dictOf [⟨hsh,.str ball tk,.ref bv⟩] 1)::(pj,W.listOf [.ref cj,.int (Zt true codes.length idx) ti'].toArray pe')::(pst,ops')::(S'++(TT'++rest))) →
      W.DatIn TT' (.ref bv) dd→TX<+:TX'→TX'.length≤TX.length+4→FN<+:FN'→FN'.length≤FN.length+2→E (.ref e) {s with heap:=h',toks:=tk'}),
   wpAny (model PR w) (ktrTop dp un gd cn cs L a ccd cl outer) (call (.ref 566) [.ref mad,.int sn tn,.bool true]) Q E s
noncomputable def VI (c:Zf):Prop:=@cF _ (@JM) c (c.a 4) (c.a 5) (c.a 6) (c.a 7) (c.a 8) (c.a 9) (c.a 10) (c.a 11) (c.vj 0) (c.vj 1) (c.o 0) (c.a 12) (c.a 13) (c.a 14) (c.a 15) (c.a 16) (c.a 17) (c.a 18) (c.a 19) (c.a 20) (c.m 0) (c.vj 2) (c.a 21) (c.a 22) (c.a 23) (c.a 24) (c.a 25) (c.a 26) (c.a 27) (c.a 28) (c.a 29) (c.vj 3) (c.a 30) (c.a 31) (c.a 32) (c.a 33) (c.a 34) (c.a 35) (c.a 36) (c.a 37) (c.a 38) (c.a 39) (c.v 0) (c.v 1) (c.v 2) (c.y 0) (c.y 1) (c.y 2) (c.z 0) (c.n 1) (c.u 0) (c.w 0) (c.o 1) (c.o 2) (c.o 3) (c.h 1) (c.t 0) (c.b 0) (c.b 1) (c.b 2)
noncomputable def JL:Zf:=ZM Zj VI
theorem Zbq:VI JL:=by
  delta VI cF
  k_extra "gS"
  exists Zf.h _ _,TX
  exists Zf.a _ _,sto,sym,sd,tl,an,fl,fn,n,inp,outp,files,alia,actn,pst,f_n,flo,flod,mcode,xl,grd,rts,bgs,dbs,m_n,mad,mmd,oprs,flgs,d_n,dbd,sn,pj,cj,ce,pe,idx
  exists Zf.n _ _,act
  exists Zf.vj _ _,jy,jf,jm,jd
  exists Zf.o _ _,ft8,ti,tn,ta
  exists Zf.m _ _,nxt
  exists Zf.v _ _,oin,ops,oac
  exists Zf.y _ _,kin,kps,kac
  exists Zf.z _ _,past
  exists Zf.u _ _,cv
  exists Zf.w _ _,codes
  exists Zf.t _ _,FN
  exists Zf.b _ _,S,news,rest
  intro B F X T hk N P hS D hm1 hm2 mm1 mm2 md1 md2 mf1 mf2 mi hi hv mc hc hlen hidx hnn hps hpb lop hpz mac hac hva loa hb hb' hdp hun ret exc
  delta Zq ZL ZB Z8 at *
  have N₁:News h₀ L s.heap ((pj,W.listOf [.ref cj,.int idx ti].toArray pe)::(pst,ops)::(S++rest)):=Ze N P.perm
  have D₁:Za ((pj,W.listOf [.ref cj,.int idx ti].toArray pe)::(pst,ops)::(S++rest)):=D.perm P.perm
  have hzz:kps.length≤sizeLine:=by rw [sizeLine_eq];tb_start
  clear N D P
  refine wpAny_call ?_
  k_dflt cell_enter
  k_steps
  · have hE:codes.length≤idx:=Zgt (by assumption) (by assumption)
    rw [UT hE,Zbl hE] at ret
    rename News _ _ _ _=>nN
    have nD:=Zd nN (by ktr_unf)
    exact ret _ _ _ _ _ _ _ ⟨by assumption,fun h=>absurd h.1 (by tb_start)⟩ (WJ (by assumption)) (by k_asm) (Zc nN (by ktr_rel)) (Zb nD (by ktr_rel))
  · have hE:¬ codes.length≤idx:=UQ (by assumption) (by assumption)
    have h0:=Uu hnn (Nat.lt_of_not_le hE)
    exfalso;omega
  · have hE:¬ codes.length≤idx:=UQ (by assumption) (by assumption)
    rw [Zaz hE,US hE] at exc
    rename RaisedD _ _ _ _ _ _ _ _=>nR
    rename Za _=>nD
    exact exc _ _ _ _ _ _ _ _ _ _ _ _ _ _ _ _ _ (.inr ⟨Nat.lt_of_not_le hE,by tb_start,_,by assumption,by assumption⟩) (Zn hps hpb) (by assumption) (by k_asm) (Zi nR (by ktr_rel)) (by assumption) (Zb nD (by ktr_rel)) (by assumption) (by assumption) (by tb_start) (by assumption) (by tb_start)
  · have hE:¬ codes.length≤idx:=UQ (by assumption) (by assumption)
    rw [Zaz hE,US hE] at ret
    rename News _ _ _ _=>nN
    have nD:=Zd nN (by ktr_unf)
    exact ret _ _ _ _ _ _ _ ⟨by assumption,fun h=>absurd h.2 (by tb_start)⟩ (Zn hps hpb) (by k_asm) (Zc nN (by ktr_rel)) (Zb nD (by ktr_rel))
  · rename codes.length≤idx=>hE
    rename past=true=>hP
    rw [UT hE,UR hP] at exc
    rename RaisedD _ _ _ _ _ _ _ _=>nR
    rename Za _=>nD
    exact exc _ _ _ _ _ _ _ _ _ _ _ _ _ _ _ _ _ (.inl ⟨hP,hE,by assumption,by assumption⟩) (Zn hps hpb) (by assumption) (by k_asm) (Zi nR (by ktr_rel)) (by assumption) (Zb nD (by ktr_rel)) (by assumption) (by assumption) (by tb_start) (by assumption) (by tb_start)
theorem ZeT {sto sym sd tl an fl fn n jy jf ft8 inp outp files alia actn pst f_n flo flod nxt jm mcode xl grd rts bgs dbs m_n mad mmd jd oprs flgs d_n dbd sn pj cj ce pe idx oin ops oac kin kps kac past act cv codes ti tn ta TX FN S news rest}:@JM w p loose mean mg mb dp un gd cn cs a ccd cl outer A₀ base h₀ L m s Q E sto sym sd tl an fl fn n jy jf ft8 inp outp files alia actn pst f_n flo flod nxt jm mcode xl grd rts bgs dbs m_n mad mmd jd oprs flgs d_n dbd sn pj cj ce pe idx oin ops oac kin kps kac past act cv codes ti tn ta TX FN S news rest:=ZN (k:=JL) rfl Zbq (cS w p loose mean mg mb m gd cn cs ccd cl outer A₀ base h₀ s Q E |>.sh (gt dC.h [loose,TX]) |>.sa (gt dC.a [dp,un,a,L,sto,sym,sd,tl,an,fl,fn,n,inp,outp,files,alia,actn,pst,f_n,flo,flod,mcode,xl,grd,rts,bgs,dbs,m_n,mad,mmd,oprs,flgs,d_n,dbd,sn,pj,cj,ce,pe,idx]) |>.sn (gt dC.n [cn,act]) |>.svj (gt dC.vj [jy,jf,jm,jd]) |>.so (gt dC.o [ft8,ti,tn,ta]) |>.sm (gt dC.m [nxt]) |>.sv (gt dC.v [oin,ops,oac]) |>.sy (gt dC.y [kin,kps,kac]) |>.sz (gt dC.z [past]) |>.su (gt dC.u [cv]) |>.sw (gt dC.w [codes]) |>.st (gt dC.t [FN]) |>.sb (gt dC.b [S,news,rest]))
include B F X T hk
end
theorem ZnF:True:=by
  walk_at "RST"
  walk_at "G slE"
  walk_at "G dct"
  trivial
section
variable {w:World}{p:Program}{loose:List Str}{mean:ExcName→Option Value}{mg mb:Str→Option Value}
   {dp un:Nat}{gd:Option (List Code)}{cn:Str}{cs:Scope}{a:Addr}{ccd:Value}{cl:List (Str×Addr)}{outer:List Env}{A₀:Around}{base h₀:Heap}{L:Addr}{m:Str→Option Value}{s:Shared}{Q E:Value→Shared→Prop}
   (B:Below A₀ base outer h₀)(F:Fr h₀ L s.heap m)(X:(K w.params).In h₀)(T:Top p loose mean mg mb h₀)(hk:cs.kind = .function)
include B F X T hk
theorem ZnE:True:=by
  k_with "call ref" =>(k_here;(with_reducible show wpAny _ _ (call (Value.ref 530) _) _ _ _);k_dflt (refine' Vt (B:=?zB) (F:=?zF) (X:=?zX) (T:=?zT) (hk:=?zhk) (N:=?zN) (hdp:=?zhdp) (hun:=?zhun) (mf1:=?zmf1) (mf2:=?zmf2) (mi:=?zmi) (mp:=?zmp) (mc:=?zmc) (hi:=?zhi) (hv:=?zhv) (hc:=?zhc) (hlen:=?zhlen) (hidx:=?zhidx) (ret:=?_);k_extra "z6";(case zmf1=>k_mem);(case zmf2=>k_mem);(case zmi=>k_mem);(case zmp=>k_mem);(case zmc=>k_mem);(case zhi=>first|with_reducible assumption|k_asm);(case zhv=>first|with_reducible assumption|k_asm);(case zhc=>first|with_reducible assumption|k_asm);(case zhlen=>tb_start);(case zhidx=>tb_start);(case zhdp=>ktr_room);(case zhun=>ktr_units));intro b' h' tk' hb' F' N';(try dsimp only))
  k_with "call ref" =>(k_here;(with_reducible show wpAny _ _ (call (Value.ref 523) _) _ _ _);k_dflt (refine' WK (B:=?zB) (F:=?zF) (X:=?zX) (T:=?zT) (hk:=?zhk) (N:=?zN) (hdp:=?zhdp) (hun:=?zhun) (mf1:=?zmf1) (mf2:=?zmf2) (mi:=?zmi) (mp:=?zmp) (mc:=?zmc) (hi:=?zhi) (hv:=?zhv) (hc:=?zhc) (hlen:=?zhlen) (hidx:=?zhidx) (ret:=?_);k_extra "z6";(case zmf1=>k_mem);(case zmf2=>k_mem);(case zmi=>k_mem);(case zmp=>k_mem);(case zmc=>k_mem);(case zhi=>first|with_reducible assumption|k_asm);(case zhv=>first|with_reducible assumption|k_asm);(case zhc=>first|with_reducible assumption|k_asm);(case zhlen=>tb_start);(case zhidx=>tb_start);(case zhdp=>ktr_room);(case zhun=>ktr_units));intro t' h' tk' F' N';(try dsimp only))
  k_with "call ref" =>(k_here;(with_reducible show wpAny _ _ (call (Value.ref 228) _) _ _ _);k_dflt (refine' VB (B:=?zB) (F:=?zF) (X:=?zX) (T:=?zT) (hk:=?zhk) (N:=?zN) (hdp:=?zhdp) (hun:=?zhun) (hm1:=?zhm1) (hm2:=?zhm2) (hS:=?zhS) (P:=?zP) (D:=?zD) (hb:=?zhb) (hb':=?zhb') (ret:=?_);k_extra "z6";(case zhS=>first|with_reducible assumption|k_asm);(case zP=>ktr_rel);(case zhm1=>k_mem);(case zhm2=>k_mem);(case zhb=>tb_start);(case zhb'=>tb_start);(case zhdp=>ktr_room);(case zhun=>ktr_units);(case zD=>ktr_unf));intro e' d' t' bv' hsh' tk' TX' FN' S' TT' d1' dd' h' tkk' hS' F' N' D' hdd' hsub' hw1' her' pre' len' pref' lenf';(try dsimp only))
  k_with "call ref" =>(k_here;(with_reducible show wpAny _ _ (call (Value.ref 559) _) _ _ _);k_dflt (refine' Zcc (B:=?zB) (F:=?zF) (X:=?zX) (T:=?zT) (hk:=?zhk) (N:=?zN) (hdp:=?zhdp) (hun:=?zhun) (hm1:=?zhm1) (hm2:=?zhm2) (mm1:=?zmm1) (mm2:=?zmm2) (md1:=?zmd1) (md2:=?zmd2) (mf1:=?zmf1) (mf2:=?zmf2) (mi:=?zmi) (mp:=?zmp) (mc:=?zmc) (mps:=?zmps) (mac:=?zmac) (hS:=?zhS) (hi:=?zhi) (hv:=?zhv) (hc:=?zhc) (hps:=?zhps) (hpb:=?zhpb) (lop:=?zlop) (hac:=?zhac) (hva:=?zhva) (loa:=?zloa) (P:=?zP) (D:=?zD) (hlen:=?zhlen) (hidx:=?zhidx) (hb:=?zhb) (hb':=?zhb') (ret:=fun h' tk' hok' F' N' D'=>?_) (exc:=fun e' d' bv' hsh' tk' TX' FN' S' TT' dd' g' h' tkk' hp1' hp2' hp3' hS' F' R' U' D' hdd' hpo' pre' len' pref' lenf'=>?_);k_extra "z6";(case zhS=>first|with_reducible assumption|k_asm);(case zP=>ktr_rel);(case zhm1=>k_mem);(case zhm2=>k_mem);(case zmm1=>k_mem);(case zmm2=>k_mem);(case zmd1=>k_mem);(case zmd2=>k_mem);(case zmf1=>k_mem);(case zmf2=>k_mem);(case zmi=>k_mem);(case zmp=>k_mem);(case zmc=>k_mem);(case zmps=>k_mem);(case zmac=>k_mem);(case zhi=>first|with_reducible assumption|k_asm);(case zhv=>first|with_reducible assumption|k_asm);(case zhc=>first|with_reducible assumption|k_asm);(case zhps=>first|with_reducible assumption|k_asm);(case zhpb=>first|with_reducible assumption|k_asm);(case zlop=>first|with_reducible assumption|k_asm);(case zhac=>first|with_reducible assumption|k_asm);(case zhva=>first|with_reducible assumption|k_asm);(case zloa=>first|with_reducible assumption|k_asm);(case zhlen=>tb_start);(case zhidx=>tb_start);(case zhb=>tb_start);(case zhb'=>tb_start);(case zhdp=>ktr_room);(case zhun=>ktr_units);(case zD=>ktr_unf));all_goals (try dsimp only))
  trivial
omit B F X T hk
noncomputable def JO {sto sym sd tl an fl fn n:Nat}{jy jf:Hs}{ft8:Tok}{inp outp files alia actn pst f_n flo flod:Nat}{nxt:Int}{jm:Hs}{mcode xl grd rts bgs dbs m_n mad mmd:Nat}{jd:Hs}{oprs flgs d_n dbd sn pj cj ce pe idx:Nat}{oin ops oac:Obj}{kin kps kac:List (Int×Value)}{past:Bool}{act:Str}{cv:List Value}{codes:List Int}{ti tn ta:Tok}{TX:List Str}{FN:List (Int×Int)}{S news rest:List (Addr×Obj)}:Prop:=∀ (B:Below A₀ base outer h₀)(F:Fr h₀ L s.heap m)(X:(K w.params).In h₀)(T:Top p loose mean mg mb h₀)(hk:cs.kind = .function)(N:News h₀ L s.heap news)(P:Tk ((pj,W.listOf [.ref cj,.int idx ti].toArray pe)::(pst,ops)::S) news rest)(hS:Zh w tl an fl fn TX FN S)(D:Za news)(hm1:(sym,instObj 154 sd)∈rest)(hm2:(sd,Zq jy tl an fl fn n)∈rest)(mm1:(mad,instObj 1104 mmd)∈rest)(mm2:(mmd,ZB jm sym mcode sto xl grd rts bgs dbs m_n)∈rest)(md1:(dbs,instObj 1083 dbd)∈rest)(md2:(dbd,Z8 jd flo oprs flgs d_n)∈rest)(mf1:(flo,instObj 541 flod)∈rest)(mf2:(flod,ZL jf inp outp files alia actn pst nxt ft8 f_n)∈rest)(mi:(inp,oin)∈rest)(hi:oin.IsDictOf (intKind PR w) kin)(hv:valueAt kin (sn:Int)=some (.ref pj))(mc:(cj,W.listOf cv.toArray ce)∈rest)(hc:IntsAre cv codes)(hlen:codes.length<50)(hidx:idx<1000)(hnn:∀ c∈codes,0≤c)(hps:ops.IsDictOf (intKind PR w) kps)(hpb:(valueAt kps (sn:Int)).isSome=past)(lop:(pst==sysModules)=false)(hpz:kps.length<1000)(mac:(actn,oac)∈rest)(hac:oac.IsDictOf (intKind PR w) kac)(hva:valueAt kac (sn:Int)=some (.str act ta))(loa:(actn==sysModules)=false)(hb:TX.length<30000)(hb':FN.length<30000)(hdp:dp+70<recursionLimit)(hun:un+400<cLine)(ret:∀ (t ti':Tok)(pe':Nat)(kps':List (Int×Value))(ops':Obj)(h':Heap)(tk':Nat),Y4 past codes idx act→Zr w sn kps kps' ops' (Zs false past codes.length idx)→Fr h₀ L h' m→News h₀ L h' ((pj,W.listOf [.ref cj,.int (Zt false codes.length idx) ti'].toArray pe')::(pst,ops')::(S++rest))→Za ((pj,W.listOf [.ref cj,.int (Zt false codes.length idx) ti'].toArray pe')::(pst,ops')::(S++rest))→Q (.int (codes.getD idx (-1)) t) {s with heap:=h',toks:=tk'})(exc:∀ (e d bv:Nat)(hsh:Int)(tk ti':Tok)(pe':Nat)(kps':List (Int×Value))(ops':Obj)(TX':List Str)(FN':List (Int×Int))(S' TT':List (Addr×Obj))(dd:W.Dat)(g' h':Heap)(tk':Nat),Jq TX' FN' sn past codes idx act dd→Zr w sn kps kps' ops' (Zs false past codes.length idx)→Zh w tl an fl fn TX' FN' S'→Fr h₀ L g' m →
      RaisedD base g' (envX cn cs L a ccd cl::outer) e (.ref 51) d ((d,dictOf [⟨hsh,.str ball tk,.ref bv⟩] 1)::(pj,W.listOf [.ref cj,.int (Zt false codes.length idx) ti'].toArray pe')::(pst,ops')::(S'++(TT'++rest))) h'→g'.UpToSlots h'→Za ((d,dictOf [⟨hsh,.str ball tk,.ref bv⟩] 1)::(pj,W.listOf [.ref cj,.int (Zt false codes.length idx) ti'].toArray pe')::(pst,ops')::(S'++(TT'++rest))) →
      W.DatIn TT' (.ref bv) dd→TX<+:TX'→TX'.length≤TX.length+4→FN<+:FN'→FN'.length≤FN.length+2→E (.ref e) {s with heap:=h',toks:=tk'}),
   wpAny (model PR w) (ktrTop dp un gd cn cs L a ccd cl outer) (call (.ref 566) [.ref mad,.int sn tn,.bool false]) Q E s
noncomputable def VJ (c:Zf):Prop:=@cF _ (@JO) c (c.a 4) (c.a 5) (c.a 6) (c.a 7) (c.a 8) (c.a 9) (c.a 10) (c.a 11) (c.vj 0) (c.vj 1) (c.o 0) (c.a 12) (c.a 13) (c.a 14) (c.a 15) (c.a 16) (c.a 17) (c.a 18) (c.a 19) (c.a 20) (c.m 0) (c.vj 2) (c.a 21) (c.a 22) (c.a 23) (c.a 24) (c.a 25) (c.a 26) (c.a 27) (c.a 28) (c.a 29) (c.vj 3) (c.a 30) (c.a 31) (c.a 32) (c.a 33) (c.a 34) (c.a 35) (c.a 36) (c.a 37) (c.a 38) (c.a 39) (c.v 0) (c.v 1) (c.v 2) (c.y 0) (c.y 1) (c.y 2) (c.z 0) (c.n 1) (c.u 0) (c.w 0) (c.o 1) (c.o 2) (c.o 3) (c.h 1) (c.t 0) (c.b 0) (c.b 1) (c.b 2)
noncomputable def JN:Zf:=ZM Zj VJ
theorem Zbr:VJ JN:=by
  delta VJ cF
  k_extra "gS"
  exists Zf.h _ _,TX
  exists Zf.a _ _,sto,sym,sd,tl,an,fl,fn,n,inp,outp,files,alia,actn,pst,f_n,flo,flod,mcode,xl,grd,rts,bgs,dbs,m_n,mad,mmd,oprs,flgs,d_n,dbd,sn,pj,cj,ce,pe,idx
  exists Zf.n _ _,act
  exists Zf.vj _ _,jy,jf,jm,jd
  exists Zf.o _ _,ft8,ti,tn,ta
  exists Zf.m _ _,nxt
  exists Zf.v _ _,oin,ops,oac
  exists Zf.y _ _,kin,kps,kac
  exists Zf.z _ _,past
  exists Zf.u _ _,cv
  exists Zf.w _ _,codes
  exists Zf.t _ _,FN
  exists Zf.b _ _,S,news,rest
  intro B F X T hk N P hS D hm1 hm2 mm1 mm2 md1 md2 mf1 mf2 mi hi hv mc hc hlen hidx hnn hps hpb lop hpz mac hac hva loa hb hb' hdp hun ret exc
  delta Zq ZL ZB Z8 at *
  have N₁:News h₀ L s.heap ((pj,W.listOf [.ref cj,.int idx ti].toArray pe)::(pst,ops)::(S++rest)):=Ze N P.perm
  have D₁:Za ((pj,W.listOf [.ref cj,.int idx ti].toArray pe)::(pst,ops)::(S++rest)):=D.perm P.perm
  have hzz:kps.length≤sizeLine:=by rw [sizeLine_eq];tb_start
  clear N D P
  rw [Zck,Zbk] at ret exc
  refine wpAny_call ?_
  k_dflt cell_enter
  k_steps
  · have hE:codes.length≤idx:=Zgt (by assumption) (by assumption)
    rename News _ _ _ _=>nN
    have nD:=Zd nN (by ktr_unf)
    exact ret _ _ _ _ _ _ _ ⟨by assumption,fun h=>absurd h.1 (by tb_start)⟩ (Zn hps hpb) (by k_asm) (Zc nN (by ktr_rel)) (Zb nD (by ktr_rel))
  · have hE:¬ codes.length≤idx:=UQ (by assumption) (by assumption)
    have h0:=Uu hnn (Nat.lt_of_not_le hE)
    exfalso;omega
  · have hE:¬ codes.length≤idx:=UQ (by assumption) (by assumption)
    rename RaisedD _ _ _ _ _ _ _ _=>nR
    rename Za _=>nD
    exact exc _ _ _ _ _ _ _ _ _ _ _ _ _ _ _ _ _ (.inr ⟨Nat.lt_of_not_le hE,by tb_start,_,by assumption,by assumption⟩) (Zn hps hpb) (by assumption) (by k_asm) (Zi nR (by ktr_rel)) (by assumption) (Zb nD (by ktr_rel)) (by assumption) (by assumption) (by tb_start) (by assumption) (by tb_start)
  · have hE:¬ codes.length≤idx:=UQ (by assumption) (by assumption)
    rename News _ _ _ _=>nN
    have nD:=Zd nN (by ktr_unf)
    exact ret _ _ _ _ _ _ _ ⟨by assumption,fun h=>absurd h.2 (by tb_start)⟩ (Zn hps hpb) (by k_asm) (Zc nN (by ktr_rel)) (Zb nD (by ktr_rel))
  · rename codes.length≤idx=>hE
    rename past=true=>hP
    rename RaisedD _ _ _ _ _ _ _ _=>nR
    rename Za _=>nD
    exact exc _ _ _ _ _ _ _ _ _ _ _ _ _ _ _ _ _ (.inl ⟨hP,hE,by assumption,by assumption⟩) (Zn hps hpb) (by assumption) (by k_asm) (Zi nR (by ktr_rel)) (by assumption) (Zb nD (by ktr_rel)) (by assumption) (by assumption) (by tb_start) (by assumption) (by tb_start)
theorem ZeU {sto sym sd tl an fl fn n jy jf ft8 inp outp files alia actn pst f_n flo flod nxt jm mcode xl grd rts bgs dbs m_n mad mmd jd oprs flgs d_n dbd sn pj cj ce pe idx oin ops oac kin kps kac past act cv codes ti tn ta TX FN S news rest}:@JO w p loose mean mg mb dp un gd cn cs a ccd cl outer A₀ base h₀ L m s Q E sto sym sd tl an fl fn n jy jf ft8 inp outp files alia actn pst f_n flo flod nxt jm mcode xl grd rts bgs dbs m_n mad mmd jd oprs flgs d_n dbd sn pj cj ce pe idx oin ops oac kin kps kac past act cv codes ti tn ta TX FN S news rest:=ZN (k:=JN) rfl Zbr (cS w p loose mean mg mb m gd cn cs ccd cl outer A₀ base h₀ s Q E |>.sh (gt dC.h [loose,TX]) |>.sa (gt dC.a [dp,un,a,L,sto,sym,sd,tl,an,fl,fn,n,inp,outp,files,alia,actn,pst,f_n,flo,flod,mcode,xl,grd,rts,bgs,dbs,m_n,mad,mmd,oprs,flgs,d_n,dbd,sn,pj,cj,ce,pe,idx]) |>.sn (gt dC.n [cn,act]) |>.svj (gt dC.vj [jy,jf,jm,jd]) |>.so (gt dC.o [ft8,ti,tn,ta]) |>.sm (gt dC.m [nxt]) |>.sv (gt dC.v [oin,ops,oac]) |>.sy (gt dC.y [kin,kps,kac]) |>.sz (gt dC.z [past]) |>.su (gt dC.u [cv]) |>.sw (gt dC.w [codes]) |>.st (gt dC.t [FN]) |>.sb (gt dC.b [S,news,rest]))
include B F X T hk
end
theorem ZnD:True:=by
  walk_at "RST"
  walk_at "G slE"
  trivial
noncomputable def ZY (TX:List Str)(FN:List (Int×Int))(x:Str)(dc dd:W.Dat):Prop:=∃ d1,Zv TX x d1∧ZG TX FN (.ofString "type_error") [d1,dc] dd
theorem Zeq {a:Addr×Obj}{S l rest:List (Addr×Obj)}(h:ExtA S l rest):Tk (S++[a]) (a::l) rest:=⟨by
  have e:(S++[a])++rest=S++([a]++rest):=by rw [List.append_assoc]
  rw [e]
  refine List.Perm.trans (List.Perm.append_left [a] h.perm) ?_
  exact List.perm_append_comm_assoc [a] S rest⟩
theorem ZnC:True:=by
  k_with "call builtin:len" =>(k_here;(with_reducible show wpAny _ _ (call (Value.builtin "len") [Value.str _ _]) _ _ _);k_dflt (refine P.len_str (by tb_start) ?_))
  trivial
section
variable {w:World}{p:Program}{loose:List Str}{mean:ExcName→Option Value}{mg mb:Str→Option Value}
   {dp un:Nat}{gd:Option (List Code)}{cn:Str}{cs:Scope}{a:Addr}{ccd:Value}{cl:List (Str×Addr)}{outer:List Env}{A₀:Around}{base h₀:Heap}{L:Addr}{m:Str→Option Value}{s:Shared}{Q E:Value→Shared→Prop}
   (B:Below A₀ base outer h₀)(F:Fr h₀ L s.heap m)(X:(K w.params).In h₀)(T:Top p loose mean mg mb h₀)(hk:cs.kind = .function)
include B F X T hk
theorem ZnB:True:=by
  walk_at "G der"
  k_with "call ref" =>(k_here;(with_reducible show wpAny _ _ (call (Value.ref 293) _) _ _ _);k_dflt (refine' Zem (B:=?zB) (F:=?zF) (X:=?zX) (T:=?zT) (hk:=?zhk) (N:=?zN) (hdp:=?zhdp) (hun:=?zhun) (ms1:=?zms1) (ms2:=?zms2) (mc:=?zmc) (q0:=?zq0) (q1:=?zq1) (ret:=?_);k_extra "z6";(case zms1=>k_mem);(case zms2=>k_mem);(case zmc=>k_mem);(case zq0=>tb_start);(case zq1=>tb_start);(case zhdp=>ktr_room);(case zhun=>ktr_units));intro h' tk' F' N';(try dsimp only))
  k_with "call ref" =>(k_here;(with_reducible show wpAny _ _ (call (Value.ref 293) _) _ _ _);k_dflt (refine' Zel (B:=?zB) (F:=?zF) (X:=?zX) (T:=?zT) (hk:=?zhk) (N:=?zN) (hdp:=?zhdp) (hun:=?zhun) (ms1:=?zms1) (ms2:=?zms2) (mc:=?zmc) (mh:=?zmh) (q0:=?zq0) (q1:=?zq1) (ret:=?_);k_extra "z6";(case zms1=>k_mem);(case zms2=>k_mem);(case zmc=>k_mem);(case zmh=>k_mem);(case zq0=>first|with_reducible assumption|k_asm);(case zq1=>first|with_reducible assumption|k_asm);(case zhdp=>ktr_room);(case zhun=>ktr_units));intro h' tk' F' N';(try dsimp only))
  k_with "call ref" =>(k_here;(with_reducible show wpAny _ _ (call (Value.ref 961) _) _ _ _);k_dflt (refine' ZbQ (B:=?zB) (F:=?zF) (X:=?zX) (T:=?zT) (hk:=?zhk) (N:=?zN) (hdp:=?zhdp) (hun:=?zhun) (mm1:=?zmm1) (mm2:=?zmm2) (ms1:=?zms1) (ms2:=?zms2) (mc2:=?zmc2) (dr:=?zdr) (D:=?zD) (ret:=?_);k_extra "z6";(case zmm1=>k_mem);(case zmm2=>k_mem);(case zms1=>k_mem);(case zms2=>k_mem);(case zmc2=>k_mem);(case zdr=>first|with_reducible assumption|k_asm);(case zhdp=>ktr_room);(case zhun=>ktr_units);(case zD=>ktr_unf));intro t' k1' k2' h' tk' F' N' D';(try dsimp only))
  k_with "call ref" =>(k_here;(with_reducible show wpAny _ _ (call (Value.ref 961) _) _ _ _);k_dflt (refine' ZbO (B:=?zB) (F:=?zF) (X:=?zX) (T:=?zT) (hk:=?zhk) (N:=?zN) (hdp:=?zhdp) (hun:=?zhun) (mm1:=?zmm1) (mm2:=?zmm2) (ms1:=?zms1) (ms2:=?zms2) (mc2:=?zmc2) (dr:=?zdr) (D:=?zD) (ret:=?_);k_extra "z6";(case zmm1=>k_mem);(case zmm2=>k_mem);(case zms1=>k_mem);(case zms2=>k_mem);(case zmc2=>k_mem);(case zdr=>first|with_reducible assumption|k_asm);(case zhdp=>ktr_room);(case zhun=>ktr_units);(case zD=>ktr_unf));intro t' k1' k2' h' tk' F' N' D';(try dsimp only))
  k_with "call ref" =>(k_here;(with_reducible show wpAny _ _ (call (Value.ref 95) _) _ _ _);k_dflt (refine' ZbL (B:=?zB) (F:=?zF) (X:=?zX) (T:=?zT) (hk:=?zhk) (N:=?zN) (hdp:=?zhdp) (hun:=?zhun) (hm1:=?zhm1) (hm2:=?zhm2) (hS:=?zhS) (P:=?zP) (D:=?zD) (hb:=?zhb) (hi:=?zhi) (ret:=?_);k_extra "z6";(case zhS=>first|with_reducible assumption|k_asm);(case zP=>ktr_rel);(case zhm1=>k_mem);(case zhm2=>k_mem);(case zhb=>tb_start);(case zhi=>first|with_reducible assumption|k_asm);(case zhdp=>ktr_room);(case zhun=>ktr_units);(case zD=>ktr_unf));intro t' h' tk' F' N';(try dsimp only))
  k_with "call ref" =>(k_here;(with_reducible show wpAny _ _ (call (Value.ref 207) _) _ _ _);k_dflt (refine' ZaY (B:=?zB) (F:=?zF) (X:=?zX) (T:=?zT) (hk:=?zhk) (N:=?zN) (hdp:=?zhdp) (hun:=?zhun) (hm1:=?zhm1) (hm2:=?zhm2) (hS:=?zhS) (P:=?zP) (D:=?zD) (hc:=?zhc) (hcd:=?zhcd) (hb:=?zhb) (hb':=?zhb') (ret:=?_);k_extra "z6";(case zhS=>first|with_reducible assumption|k_asm);(case zP=>exact Zeq (by ktr_rel));(case zhm1=>k_mem);(case zhm2=>k_mem);(case zhc=>k_mem);(case zhcd=>kqd_in);(case zhb=>tb_start);(case zhb'=>tb_start);(case zhdp=>ktr_room);(case zhun=>ktr_units);(case zD=>ktr_unf));intro e' d' t' bv' hsh' tk' TX' FN' S' TT' d1' dd' h' tkk' hS' F' N' D' hdd' hsub' hw1' her' pre' len' pref' lenf';(try dsimp only))
  k_with "call ref" =>(k_here;(with_reducible show wpAny _ _ (call (Value.ref 228) _) _ _ _);k_dflt (refine' VB (B:=?zB) (F:=?zF) (X:=?zX) (T:=?zT) (hk:=?zhk) (N:=?zN) (hdp:=?zhdp) (hun:=?zhun) (hm1:=?zhm1) (hm2:=?zhm2) (hS:=?zhS) (P:=?zP) (D:=?zD) (hb:=?zhb) (hb':=?zhb') (ret:=?_);k_extra "z6";(case zhS=>first|with_reducible assumption|k_asm);(case zP=>ktr_rel);(case zhm1=>k_mem);(case zhm2=>k_mem);(case zhb=>tb_start);(case zhb'=>tb_start);(case zhdp=>ktr_room);(case zhun=>ktr_units);(case zD=>ktr_unf));intro e' d' t' bv' hsh' tk' TX' FN' S' TT' d1' dd' h' tkk' hS' F' N' D' hdd' hsub' hw1' her' pre' len' pref' lenf';(try dsimp only))
  trivial
omit B F X T hk in
noncomputable def Jh {sym sd tl an fl fn n:Nat}{jy js:Hs}{hp stk trl s_n sto stod:Nat}{jm:Hs}{mcode xl grd rts bgs dbs m_n mad mmd c k he:Nat}{hv:Array Value}{t1 t2:Tok}{rest:List (Addr×Obj)}:Prop:=∀ (B:Below A₀ base outer h₀)(F:Fr h₀ L s.heap m)(X:(K w.params).In h₀)(T:Top p loose mean mg mb h₀)(hk:cs.kind = .function)(N:News h₀ L s.heap rest)(ms1:(sto,instObj 430 stod)∈rest)(ms2:(stod,Zy js sym hp stk trl s_n)∈rest)(mm1:(mad,instObj 1104 mmd)∈rest)(mm2:(mmd,ZB jm sym mcode sto xl grd rts bgs dbs m_n)∈rest)(mc:(c,Zk 0 k t1 t2)∈rest)(mh:(hp,W.listOf hv he)∈rest)(q0:hv[k]? = some (.ref c))(q1:k<100000)(hdp:dp+20<recursionLimit)(hun:un+200<cLine)(ret:∀ (h':Heap)(tk':Nat),Fr h₀ L h' m→News h₀ L h' rest→Q .none {s with heap:=h',toks:=tk'}),
   wpAny (model PR w) (ktrTop dp un gd cn cs L a ccd cl outer) (call (.ref 573) [.ref mad,.ref c]) Q E s
noncomputable def Yi (c:Zf):Prop:=@cF _ (@Jh) c (c.a 4) (c.a 5) (c.a 6) (c.a 7) (c.a 8) (c.a 9) (c.a 10) (c.vj 0) (c.vj 1) (c.a 11) (c.a 12) (c.a 13) (c.a 14) (c.a 15) (c.a 16) (c.vj 2) (c.a 17) (c.a 18) (c.a 19) (c.a 20) (c.a 21) (c.a 22) (c.a 23) (c.a 24) (c.a 25) (c.a 26) (c.a 27) (c.a 28) (c.vc 0) (c.o 0) (c.o 1) (c.b 0)
omit B F X T hk in
noncomputable def Jg {sym sd tl an fl fn n:Nat}{jy js:Hs}{hp stk trl s_n sto stod:Nat}{jm:Hs}{mcode xl grd rts bgs dbs m_n mad mmd c k he:Nat}{hv:Array Value}{t1 t2:Tok}{rest:List (Addr×Obj)}:Prop:=∀ (B:Below A₀ base outer h₀)(F:Fr h₀ L s.heap m)(X:(K w.params).In h₀)(T:Top p loose mean mg mb h₀)(hk:cs.kind = .function)(N:News h₀ L s.heap rest)(ms1:(sto,instObj 430 stod)∈rest)(ms2:(stod,Zy js sym hp stk trl s_n)∈rest)(mm1:(mad,instObj 1104 mmd)∈rest)(mm2:(mmd,ZB jm sym mcode sto xl grd rts bgs dbs m_n)∈rest)(mc:(c,Zk 0 k t1 t2)∈rest)(mh:(hp,W.listOf hv he)∈rest)(q0:hv[k]? = some (.ref c))(q1:k<100000)(hdp:dp+20<recursionLimit)(hun:un+200<cLine)(ret:∀ (h':Heap)(tk':Nat),Fr h₀ L h' m→News h₀ L h' rest→Q .none {s with heap:=h',toks:=tk'}),
   wpAny (model PR w) (ktrTop dp un gd cn cs L a ccd cl outer) (call (.ref 580) [.ref mad,.ref c]) Q E s
noncomputable def Yh (c:Zf):Prop:=@cF _ (@Jg) c (c.a 4) (c.a 5) (c.a 6) (c.a 7) (c.a 8) (c.a 9) (c.a 10) (c.vj 0) (c.vj 1) (c.a 11) (c.a 12) (c.a 13) (c.a 14) (c.a 15) (c.a 16) (c.vj 2) (c.a 17) (c.a 18) (c.a 19) (c.a 20) (c.a 21) (c.a 22) (c.a 23) (c.a 24) (c.a 25) (c.a 26) (c.a 27) (c.a 28) (c.vc 0) (c.o 0) (c.o 1) (c.b 0)
omit B F X T hk in
noncomputable def Wn {sym sd tl an fl fn n:Nat}{jy js:Hs}{hp stk trl s_n sto stod:Nat}{jm:Hs}{mcode xl grd rts bgs dbs m_n mad mmd c i:Nat}{x:Str}{t1 t2:Tok}{TX:List Str}{FN:List (Int×Int)}{S news rest:List (Addr×Obj)}:Prop:=∀ (B:Below A₀ base outer h₀)(F:Fr h₀ L s.heap m)(X:(K w.params).In h₀)(T:Top p loose mean mg mb h₀)(hk:cs.kind = .function)(N:News h₀ L s.heap news)(P:Tk S news rest)(hS:Zh w tl an fl fn TX FN S)(D:Za news)(hm1:(sym,instObj 154 sd)∈rest)(hm2:(sd,Zq jy tl an fl fn n)∈rest)(ms1:(sto,instObj 430 stod)∈rest)(ms2:(stod,Zy js sym hp stk trl s_n)∈rest)(mm1:(mad,instObj 1104 mmd)∈rest)(mm2:(mmd,ZB jm sym mcode sto xl grd rts bgs dbs m_n)∈rest)(mc:(c,Zk 4 i t1 t2)∈rest)(hi:TX[i]? = some x)(hxl:x.length<1000)(hb:TX.length<30000)(hb':FN.length<30000)(hdp:dp+60<recursionLimit)(hun:un+500<cLine)(ret:∀ (h':Heap)(tk':Nat),(i=24∨x.length=1)→Fr h₀ L h' m→News h₀ L h' (S++rest)→Za (S++rest)→Q .none {s with heap:=h',toks:=tk'})(exc:∀ (e d bv:Nat)(hsh:Int)(tk:Tok)(TX':List Str)(FN':List (Int×Int))(S' TT':List (Addr×Obj))(dd:W.Dat)(g' h':Heap)(tk':Nat),¬ (i=24∨x.length=1)→ZY TX' FN' (.ofString "in_character") (ZX i) dd→Zh w tl an fl fn TX' FN' S'→Fr h₀ L g' m →
      RaisedD base g' (envX cn cs L a ccd cl::outer) e (.ref 51) d ((d,dictOf [⟨hsh,.str ball tk,.ref bv⟩] 1)::(S'++(TT'++rest))) h'→g'.UpToSlots h'→Za ((d,dictOf [⟨hsh,.str ball tk,.ref bv⟩] 1)::(S'++(TT'++rest))) →
      W.DatIn TT' (.ref bv) dd→TX<+:TX'→TX'.length≤TX.length+4→FN<+:FN'→FN'.length≤FN.length+2→E (.ref e) {s with heap:=h',toks:=tk'}),
   wpAny (model PR w) (ktrTop dp un gd cn cs L a ccd cl outer) (call (.ref 573) [.ref mad,.ref c]) Q E s
noncomputable def Vr (c:Zf):Prop:=@cF _ (@Wn) c (c.a 4) (c.a 5) (c.a 6) (c.a 7) (c.a 8) (c.a 9) (c.a 10) (c.vj 0) (c.vj 1) (c.a 11) (c.a 12) (c.a 13) (c.a 14) (c.a 15) (c.a 16) (c.vj 2) (c.a 17) (c.a 18) (c.a 19) (c.a 20) (c.a 21) (c.a 22) (c.a 23) (c.a 24) (c.a 25) (c.a 26) (c.a 27) (c.n 1) (c.o 0) (c.o 1) (c.h 1) (c.t 0) (c.b 0) (c.b 1) (c.b 2)
omit B F X T hk in
noncomputable def Wm {sym sd tl an fl fn n:Nat}{jy js:Hs}{hp stk trl s_n sto stod:Nat}{jm:Hs}{mcode xl grd rts bgs dbs m_n mad mmd c:Nat}{v:Int}{t1 t2:Tok}{TX:List Str}{FN:List (Int×Int)}{S news rest:List (Addr×Obj)}:Prop:=∀ (B:Below A₀ base outer h₀)(F:Fr h₀ L s.heap m)(X:(K w.params).In h₀)(T:Top p loose mean mg mb h₀)(hk:cs.kind = .function)(N:News h₀ L s.heap news)(P:Tk S news rest)(hS:Zh w tl an fl fn TX FN S)(D:Za news)(hm1:(sym,instObj 154 sd)∈rest)(hm2:(sd,Zq jy tl an fl fn n)∈rest)(ms1:(sto,instObj 430 stod)∈rest)(ms2:(stod,Zy js sym hp stk trl s_n)∈rest)(mm1:(mad,instObj 1104 mmd)∈rest)(mm2:(mmd,ZB jm sym mcode sto xl grd rts bgs dbs m_n)∈rest)(mc:(c,Zk 5 v t1 t2)∈rest)(hb:TX.length<30000)(hb':FN.length<30000)(hdp:dp+60<recursionLimit)(hun:un+500<cLine)(exc:∀ (e d bv:Nat)(hsh:Int)(tk:Tok)(TX':List Str)(FN':List (Int×Int))(S' TT':List (Addr×Obj))(dd:W.Dat)(g' h':Heap)(tk':Nat),True→ZY TX' FN' (.ofString "in_character") (UZ v) dd→Zh w tl an fl fn TX' FN' S'→Fr h₀ L g' m →
      RaisedD base g' (envX cn cs L a ccd cl::outer) e (.ref 51) d ((d,dictOf [⟨hsh,.str ball tk,.ref bv⟩] 1)::(S'++(TT'++rest))) h'→g'.UpToSlots h'→Za ((d,dictOf [⟨hsh,.str ball tk,.ref bv⟩] 1)::(S'++(TT'++rest))) →
      W.DatIn TT' (.ref bv) dd→TX<+:TX'→TX'.length≤TX.length+4→FN<+:FN'→FN'.length≤FN.length+2→E (.ref e) {s with heap:=h',toks:=tk'}),
   wpAny (model PR w) (ktrTop dp un gd cn cs L a ccd cl outer) (call (.ref 573) [.ref mad,.ref c]) Q E s
noncomputable def Vq (c:Zf):Prop:=@cF _ (@Wm) c (c.a 4) (c.a 5) (c.a 6) (c.a 7) (c.a 8) (c.a 9) (c.a 10) (c.vj 0) (c.vj 1) (c.a 11) (c.a 12) (c.a 13) (c.a 14) (c.a 15) (c.a 16) (c.vj 2) (c.a 17) (c.a 18) (c.a 19) (c.a 20) (c.a 21) (c.a 22) (c.a 23) (c.a 24) (c.a 25) (c.a 26) (c.m 0) (c.o 0) (c.o 1) (c.h 1) (c.t 0) (c.b 0) (c.b 1) (c.b 2)
omit B F X T hk in
noncomputable def Wl {sym sd tl an fl fn n:Nat}{jy js:Hs}{hp stk trl s_n sto stod:Nat}{jm:Hs}{mcode xl grd rts bgs dbs m_n mad mmd c i:Nat}{t1 t2:Tok}{TX:List Str}{FN:List (Int×Int)}{S news rest:List (Addr×Obj)}:Prop:=∀ (B:Below A₀ base outer h₀)(F:Fr h₀ L s.heap m)(X:(K w.params).In h₀)(T:Top p loose mean mg mb h₀)(hk:cs.kind = .function)(N:News h₀ L s.heap news)(P:Tk S news rest)(hS:Zh w tl an fl fn TX FN S)(D:Za news)(hm1:(sym,instObj 154 sd)∈rest)(hm2:(sd,Zq jy tl an fl fn n)∈rest)(ms1:(sto,instObj 430 stod)∈rest)(ms2:(stod,Zy js sym hp stk trl s_n)∈rest)(mm1:(mad,instObj 1104 mmd)∈rest)(mm2:(mmd,ZB jm sym mcode sto xl grd rts bgs dbs m_n)∈rest)(mc:(c,Zk 4 i t1 t2)∈rest)(hb:TX.length<30000)(hb':FN.length<30000)(hdp:dp+60<recursionLimit)(hun:un+500<cLine)(exc:∀ (e d bv:Nat)(hsh:Int)(tk:Tok)(TX':List Str)(FN':List (Int×Int))(S' TT':List (Addr×Obj))(dd:W.Dat)(g' h':Heap)(tk':Nat),True→ZY TX' FN' (.ofString "integer") (ZX i) dd→Zh w tl an fl fn TX' FN' S'→Fr h₀ L g' m →
      RaisedD base g' (envX cn cs L a ccd cl::outer) e (.ref 51) d ((d,dictOf [⟨hsh,.str ball tk,.ref bv⟩] 1)::(S'++(TT'++rest))) h'→g'.UpToSlots h'→Za ((d,dictOf [⟨hsh,.str ball tk,.ref bv⟩] 1)::(S'++(TT'++rest))) →
      W.DatIn TT' (.ref bv) dd→TX<+:TX'→TX'.length≤TX.length+4→FN<+:FN'→FN'.length≤FN.length+2→E (.ref e) {s with heap:=h',toks:=tk'}),
   wpAny (model PR w) (ktrTop dp un gd cn cs L a ccd cl outer) (call (.ref 580) [.ref mad,.ref c]) Q E s
noncomputable def Vp (c:Zf):Prop:=@cF _ (@Wl) c (c.a 4) (c.a 5) (c.a 6) (c.a 7) (c.a 8) (c.a 9) (c.a 10) (c.vj 0) (c.vj 1) (c.a 11) (c.a 12) (c.a 13) (c.a 14) (c.a 15) (c.a 16) (c.vj 2) (c.a 17) (c.a 18) (c.a 19) (c.a 20) (c.a 21) (c.a 22) (c.a 23) (c.a 24) (c.a 25) (c.a 26) (c.a 27) (c.o 0) (c.o 1) (c.h 1) (c.t 0) (c.b 0) (c.b 1) (c.b 2)
omit B F X T hk in
noncomputable def Wk {sym sd tl an fl fn n:Nat}{jy js:Hs}{hp stk trl s_n sto stod:Nat}{jm:Hs}{mcode xl grd rts bgs dbs m_n mad mmd c:Nat}{v:Int}{t1 t2:Tok}{TX:List Str}{FN:List (Int×Int)}{S news rest:List (Addr×Obj)}:Prop:=∀ (B:Below A₀ base outer h₀)(F:Fr h₀ L s.heap m)(X:(K w.params).In h₀)(T:Top p loose mean mg mb h₀)(hk:cs.kind = .function)(N:News h₀ L s.heap news)(P:Tk S news rest)(hS:Zh w tl an fl fn TX FN S)(D:Za news)(hm1:(sym,instObj 154 sd)∈rest)(hm2:(sd,Zq jy tl an fl fn n)∈rest)(ms1:(sto,instObj 430 stod)∈rest)(ms2:(stod,Zy js sym hp stk trl s_n)∈rest)(mm1:(mad,instObj 1104 mmd)∈rest)(mm2:(mmd,ZB jm sym mcode sto xl grd rts bgs dbs m_n)∈rest)(mc:(c,Zk 5 v t1 t2)∈rest)(hb:TX.length<30000)(hb':FN.length<30000)(hdp:dp+60<recursionLimit)(hun:un+500<cLine)(ret:∀ (h':Heap)(tk':Nat),¬ (v < -1∨1114111<v)→Fr h₀ L h' m→News h₀ L h' (S++rest)→Za (S++rest)→Q .none {s with heap:=h',toks:=tk'})(exc:∀ (e d bv:Nat)(hsh:Int)(tk:Tok)(TX':List Str)(FN':List (Int×Int))(S' TT':List (Addr×Obj))(dd:W.Dat)(g' h':Heap)(tk':Nat),(v < -1∨1114111<v)→YB TX' FN' (.ofString "in_character_code") dd→Zh w tl an fl fn TX' FN' S'→Fr h₀ L g' m →
      RaisedD base g' (envX cn cs L a ccd cl::outer) e (.ref 51) d ((d,dictOf [⟨hsh,.str ball tk,.ref bv⟩] 1)::(S'++(TT'++rest))) h'→g'.UpToSlots h'→Za ((d,dictOf [⟨hsh,.str ball tk,.ref bv⟩] 1)::(S'++(TT'++rest))) →
      W.DatIn TT' (.ref bv) dd→TX<+:TX'→TX'.length≤TX.length+4→FN<+:FN'→FN'.length≤FN.length+2→E (.ref e) {s with heap:=h',toks:=tk'}),
   wpAny (model PR w) (ktrTop dp un gd cn cs L a ccd cl outer) (call (.ref 580) [.ref mad,.ref c]) Q E s
noncomputable def Vo (c:Zf):Prop:=@cF _ (@Wk) c (c.a 4) (c.a 5) (c.a 6) (c.a 7) (c.a 8) (c.a 9) (c.a 10) (c.vj 0) (c.vj 1) (c.a 11) (c.a 12) (c.a 13) (c.a 14) (c.a 15) (c.a 16) (c.vj 2) (c.a 17) (c.a 18) (c.a 19) (c.a 20) (c.a 21) (c.a 22) (c.a 23) (c.a 24) (c.a 25) (c.a 26) (c.m 0) (c.o 0) (c.o 1) (c.h 1) (c.t 0) (c.b 0) (c.b 1) (c.b 2)
noncomputable def ZI:Zf:=ZM Zj fun c=>Yi c∧Yh c∧Vr c∧Vq c∧Vp c∧Vo c
omit B F X T hk in
theorem Zaa:Yi ZI:=by
  delta Yi cF
  k_extra "gS"
  exists Zf.a _ _,sym,sd,tl,an,fl,fn,n,hp,stk,trl,s_n,sto,stod,mcode,xl,grd,rts,bgs,dbs,m_n,mad,mmd,c,k,he
  exists Zf.vj _ _,jy,js,jm
  exists Zf.vc _ _,hv
  exists Zf.o _ _,t1,t2
  exists Zf.b _ _,rest
  intro B F X T hk N ms1 ms2 mm1 mm2 mc mh q0 q1 hdp hun ret
  delta Zy ZB at *
  refine wpAny_call ?_
  k_dflt cell_enter
  k_steps
  exact ret _ _ (by k_asm) (by k_asm)
omit B F X T hk in
theorem W9:Yh ZI:=by
  delta Yh cF
  k_extra "gS"
  exists Zf.a _ _,sym,sd,tl,an,fl,fn,n,hp,stk,trl,s_n,sto,stod,mcode,xl,grd,rts,bgs,dbs,m_n,mad,mmd,c,k,he
  exists Zf.vj _ _,jy,js,jm
  exists Zf.vc _ _,hv
  exists Zf.o _ _,t1,t2
  exists Zf.b _ _,rest
  intro B F X T hk N ms1 ms2 mm1 mm2 mc mh q0 q1 hdp hun ret
  delta Zy ZB at *
  refine wpAny_call ?_
  k_dflt cell_enter
  k_steps
  exact ret _ _ (by k_asm) (by k_asm)
omit B F X T hk in
theorem Zec:Vr ZI:=by
  delta Vr cF
  k_extra "gS"
  exists Zf.h _ _,TX
  exists Zf.a _ _,sym,sd,tl,an,fl,fn,n,hp,stk,trl,s_n,sto,stod,mcode,xl,grd,rts,bgs,dbs,m_n,mad,mmd,c,i
  exists Zf.n _ _,x
  exists Zf.vj _ _,jy,js,jm
  exists Zf.o _ _,t1,t2
  exists Zf.t _ _,FN
  exists Zf.b _ _,S,news,rest
  intro B F X T hk N P hS D hm1 hm2 ms1 ms2 mm1 mm2 mc hi hxl hb hb' hdp hun ret exc
  delta Zq Zy ZB at *
  have N₁:News h₀ L s.heap (S++rest):=Ze N P.perm
  have D₁:Za (S++rest):=D.perm P.perm
  clear N D P
  refine wpAny_call ?_
  k_dflt cell_enter
  k_steps
  · first|exact ret _ _ (.inl (by tb_start)) (by k_asm) (by k_asm) D₁|exact ret _ _ (.inr (by tb_start)) (by k_asm) (by k_asm) D₁
  · first|exact ret _ _ (.inl (by tb_start)) (by k_asm) (by k_asm) D₁|exact ret _ _ (.inr (by tb_start)) (by k_asm) (by k_asm) D₁
  · rename RaisedD _ _ _ _ _ _ _ _=>nR
    rename Za _=>nD
    exact exc _ _ _ _ _ _ _ _ _ _ _ _ _ (by tb_start) ⟨_,by assumption,by assumption⟩ (by assumption) (by k_asm) (Zi nR (by ktr_rel)) (by assumption) (Zb nD (by ktr_rel)) (by assumption) (by assumption) (by tb_start) (by assumption) (by tb_start)
omit B F X T hk in
theorem Zeb:Vq ZI:=by
  delta Vq cF
  k_extra "gS"
  exists Zf.h _ _,TX
  exists Zf.a _ _,sym,sd,tl,an,fl,fn,n,hp,stk,trl,s_n,sto,stod,mcode,xl,grd,rts,bgs,dbs,m_n,mad,mmd,c
  exists Zf.vj _ _,jy,js,jm
  exists Zf.m _ _,v
  exists Zf.o _ _,t1,t2
  exists Zf.t _ _,FN
  exists Zf.b _ _,S,news,rest
  intro B F X T hk N P hS D hm1 hm2 ms1 ms2 mm1 mm2 mc hb hb' hdp hun exc
  delta Zq Zy ZB at *
  have N₁:News h₀ L s.heap (S++rest):=Ze N P.perm
  have D₁:Za (S++rest):=D.perm P.perm
  clear N D P
  refine wpAny_call ?_
  k_dflt cell_enter
  k_steps
  rename RaisedD _ _ _ _ _ _ _ _=>nR
  rename Za _=>nD
  exact exc _ _ _ _ _ _ _ _ _ _ _ _ _ trivial ⟨_,by assumption,by assumption⟩ (by assumption) (by k_asm) (Zi nR (by ktr_rel)) (by assumption) (Zb nD (by ktr_rel)) (by assumption) (by assumption) (by tb_start) (by assumption) (by tb_start)
omit B F X T hk in
theorem Zd9:Vp ZI:=by
  delta Vp cF
  k_extra "gS"
  exists Zf.h _ _,TX
  exists Zf.a _ _,sym,sd,tl,an,fl,fn,n,hp,stk,trl,s_n,sto,stod,mcode,xl,grd,rts,bgs,dbs,m_n,mad,mmd,c,i
  exists Zf.vj _ _,jy,js,jm
  exists Zf.o _ _,t1,t2
  exists Zf.t _ _,FN
  exists Zf.b _ _,S,news,rest
  intro B F X T hk N P hS D hm1 hm2 ms1 ms2 mm1 mm2 mc hb hb' hdp hun exc
  delta Zq Zy ZB at *
  have N₁:News h₀ L s.heap (S++rest):=Ze N P.perm
  have D₁:Za (S++rest):=D.perm P.perm
  clear N D P
  refine wpAny_call ?_
  k_dflt cell_enter
  k_steps
  rename RaisedD _ _ _ _ _ _ _ _=>nR
  rename Za _=>nD
  exact exc _ _ _ _ _ _ _ _ _ _ _ _ _ trivial ⟨_,by assumption,by assumption⟩ (by assumption) (by k_asm) (Zi nR (by ktr_rel)) (by assumption) (Zb nD (by ktr_rel)) (by assumption) (by assumption) (by tb_start) (by assumption) (by tb_start)
omit B F X T hk in
theorem Zd8:Vo ZI:=by
  delta Vo cF
  k_extra "gS"
  exists Zf.h _ _,TX
  exists Zf.a _ _,sym,sd,tl,an,fl,fn,n,hp,stk,trl,s_n,sto,stod,mcode,xl,grd,rts,bgs,dbs,m_n,mad,mmd,c
  exists Zf.vj _ _,jy,js,jm
  exists Zf.m _ _,v
  exists Zf.o _ _,t1,t2
  exists Zf.t _ _,FN
  exists Zf.b _ _,S,news,rest
  intro B F X T hk N P hS D hm1 hm2 ms1 ms2 mm1 mm2 mc hb hb' hdp hun ret exc
  delta Zq Zy ZB at *
  have N₁:News h₀ L s.heap (S++rest):=Ze N P.perm
  have D₁:Za (S++rest):=D.perm P.perm
  clear N D P
  refine wpAny_call ?_
  k_dflt cell_enter
  k_steps
  · rename RaisedD _ _ _ _ _ _ _ _=>nR
    rename Za _=>nD
    exact exc _ _ _ _ _ _ _ _ _ _ _ _ _ (by tb_start) ⟨_,by assumption,by assumption⟩ (by assumption) (by k_asm) (Zi nR (by ktr_rel)) (by assumption) (Zb nD (by ktr_rel)) (by assumption) (by assumption) (by tb_start) (by assumption) (by tb_start)
  · rename RaisedD _ _ _ _ _ _ _ _=>nR
    rename Za _=>nD
    exact exc _ _ _ _ _ _ _ _ _ _ _ _ _ (by tb_start) ⟨_,by assumption,by assumption⟩ (by assumption) (by k_asm) (Zi nR (by ktr_rel)) (by assumption) (Zb nD (by ktr_rel)) (by assumption) (by assumption) (by tb_start) (by assumption) (by tb_start)
  · exact ret _ _ (by tb_start) (by k_asm) (by k_asm) D₁
omit B F X T hk in
theorem ZE:∀ c:Zf,Yi c∧Yh c∧Vr c∧Vq c∧Vp c∧Vo c:=ZN (k:=ZI) rfl ⟨Zaa,W9,Zec,Zeb,Zd9,Zd8⟩
omit B F X T hk in
theorem Zea {sym sd tl an fl fn n jy js hp stk trl s_n sto stod jm mcode xl grd rts bgs dbs m_n mad mmd c k he hv t1 t2 rest}:@Jh w p loose mean mg mb dp un gd cn cs a ccd cl outer A₀ base h₀ L m s Q E sym sd tl an fl fn n jy js hp stk trl s_n sto stod jm mcode xl grd rts bgs dbs m_n mad mmd c k he hv t1 t2 rest:=(ZE (cS w p loose mean mg mb m gd cn cs ccd cl outer A₀ base h₀ s Q E |>.sa (gt dC.a [dp,un,a,L,sym,sd,tl,an,fl,fn,n,hp,stk,trl,s_n,sto,stod,mcode,xl,grd,rts,bgs,dbs,m_n,mad,mmd,c,k,he]) |>.svj (gt dC.vj [jy,js,jm]) |>.svc (gt dC.vc [hv]) |>.so (gt dC.o [t1,t2]) |>.sb (gt dC.b [rest]))).1
omit B F X T hk in
theorem Zd7 {sym sd tl an fl fn n jy js hp stk trl s_n sto stod jm mcode xl grd rts bgs dbs m_n mad mmd c k he hv t1 t2 rest}:@Jg w p loose mean mg mb dp un gd cn cs a ccd cl outer A₀ base h₀ L m s Q E sym sd tl an fl fn n jy js hp stk trl s_n sto stod jm mcode xl grd rts bgs dbs m_n mad mmd c k he hv t1 t2 rest:=(ZE (cS w p loose mean mg mb m gd cn cs ccd cl outer A₀ base h₀ s Q E |>.sa (gt dC.a [dp,un,a,L,sym,sd,tl,an,fl,fn,n,hp,stk,trl,s_n,sto,stod,mcode,xl,grd,rts,bgs,dbs,m_n,mad,mmd,c,k,he]) |>.svj (gt dC.vj [jy,js,jm]) |>.svc (gt dC.vc [hv]) |>.so (gt dC.o [t1,t2]) |>.sb (gt dC.b [rest]))).2.1
omit B F X T hk in
theorem ZgS {sym sd tl an fl fn n jy js hp stk trl s_n sto stod jm mcode xl grd rts bgs dbs m_n mad mmd c i x t1 t2 TX FN S news rest}:@Wn w p loose mean mg mb dp un gd cn cs a ccd cl outer A₀ base h₀ L m s Q E sym sd tl an fl fn n jy js hp stk trl s_n sto stod jm mcode xl grd rts bgs dbs m_n mad mmd c i x t1 t2 TX FN S news rest:=(ZE (cS w p loose mean mg mb m gd cn cs ccd cl outer A₀ base h₀ s Q E |>.sh (gt dC.h [loose,TX]) |>.sa (gt dC.a [dp,un,a,L,sym,sd,tl,an,fl,fn,n,hp,stk,trl,s_n,sto,stod,mcode,xl,grd,rts,bgs,dbs,m_n,mad,mmd,c,i]) |>.sn (gt dC.n [cn,x]) |>.svj (gt dC.vj [jy,js,jm]) |>.so (gt dC.o [t1,t2]) |>.st (gt dC.t [FN]) |>.sb (gt dC.b [S,news,rest]))).2.2.1
omit B F X T hk in
theorem ZgR {sym sd tl an fl fn n jy js hp stk trl s_n sto stod jm mcode xl grd rts bgs dbs m_n mad mmd c v t1 t2 TX FN S news rest}:@Wm w p loose mean mg mb dp un gd cn cs a ccd cl outer A₀ base h₀ L m s Q E sym sd tl an fl fn n jy js hp stk trl s_n sto stod jm mcode xl grd rts bgs dbs m_n mad mmd c v t1 t2 TX FN S news rest:=(ZE (cS w p loose mean mg mb m gd cn cs ccd cl outer A₀ base h₀ s Q E |>.sh (gt dC.h [loose,TX]) |>.sa (gt dC.a [dp,un,a,L,sym,sd,tl,an,fl,fn,n,hp,stk,trl,s_n,sto,stod,mcode,xl,grd,rts,bgs,dbs,m_n,mad,mmd,c]) |>.svj (gt dC.vj [jy,js,jm]) |>.sm (gt dC.m [v]) |>.so (gt dC.o [t1,t2]) |>.st (gt dC.t [FN]) |>.sb (gt dC.b [S,news,rest]))).2.2.2.1
omit B F X T hk in
theorem ZgQ {sym sd tl an fl fn n jy js hp stk trl s_n sto stod jm mcode xl grd rts bgs dbs m_n mad mmd c i t1 t2 TX FN S news rest}:@Wl w p loose mean mg mb dp un gd cn cs a ccd cl outer A₀ base h₀ L m s Q E sym sd tl an fl fn n jy js hp stk trl s_n sto stod jm mcode xl grd rts bgs dbs m_n mad mmd c i t1 t2 TX FN S news rest:=(ZE (cS w p loose mean mg mb m gd cn cs ccd cl outer A₀ base h₀ s Q E |>.sh (gt dC.h [loose,TX]) |>.sa (gt dC.a [dp,un,a,L,sym,sd,tl,an,fl,fn,n,hp,stk,trl,s_n,sto,stod,mcode,xl,grd,rts,bgs,dbs,m_n,mad,mmd,c,i]) |>.svj (gt dC.vj [jy,js,jm]) |>.so (gt dC.o [t1,t2]) |>.st (gt dC.t [FN]) |>.sb (gt dC.b [S,news,rest]))).2.2.2.2.1
omit B F X T hk in
theorem ZgP {sym sd tl an fl fn n jy js hp stk trl s_n sto stod jm mcode xl grd rts bgs dbs m_n mad mmd c v t1 t2 TX FN S news rest}:@Wk w p loose mean mg mb dp un gd cn cs a ccd cl outer A₀ base h₀ L m s Q E sym sd tl an fl fn n jy js hp stk trl s_n sto stod jm mcode xl grd rts bgs dbs m_n mad mmd c v t1 t2 TX FN S news rest:=(ZE (cS w p loose mean mg mb m gd cn cs ccd cl outer A₀ base h₀ s Q E |>.sh (gt dC.h [loose,TX]) |>.sa (gt dC.a [dp,un,a,L,sym,sd,tl,an,fl,fn,n,hp,stk,trl,s_n,sto,stod,mcode,xl,grd,rts,bgs,dbs,m_n,mad,mmd,c]) |>.svj (gt dC.vj [jy,js,jm]) |>.sm (gt dC.m [v]) |>.so (gt dC.o [t1,t2]) |>.st (gt dC.t [FN]) |>.sb (gt dC.b [S,news,rest]))).2.2.2.2.2
end
theorem ZnA:True:=by
  walk_at "RST"
  walk_at "G slE"
  trivial
noncomputable def tgD:Tgt→W.Dat | .v =>.tuple [.str (.ofString "v"),.int 0] | .a i _=>ZX i | .i k=>UZ k
noncomputable def Zfj (TX:List Str)(FN:List (Int×Int)):Bool→Tgt→W.Dat→Prop
  | _,.v,_=>False
  | true,.a i x,dd=>¬ (i=24∨x.length=1)∧ZY TX FN (.ofString "in_character") (ZX i) dd
  | true,.i k,dd=>ZY TX FN (.ofString "in_character") (UZ k) dd
  | false,.a i _,dd=>ZY TX FN (.ofString "integer") (ZX i) dd
  | false,.i k,dd=>(k < -1∨1114111<k)∧YB TX FN (.ofString "in_character_code") dd
noncomputable def ZF:Bool→Tgt→Prop
  | _,.v=>True
  | true,.a i x=>i=24∨x.length=1
  | true,.i _=>False
  | false,.a _ _=>False
  | false,.i k=>¬ (k < -1∨1114111<k)
noncomputable def Zd6 (c:Int):Str:=⟨#[c.toNat]⟩
noncomputable def Uk (TX:List Str)(chars:Bool)(codes:List Int)(idx:Nat)(tag v:Int):Prop :=
  if chars=true then tag=4∧((codes.length≤idx∧v=24)∨(idx<codes.length∧∃ j:Nat,TX[j]? = some (Zd6 (codes.getD idx (-1)))∧v=j)) else tag=5∧v=codes.getD idx (-1)
noncomputable def Wx (TX:List Str)(FN:List (Int×Int))(chars mv:Bool)(sn:Int)(past:Bool)(codes:List Int)(idx:Nat)(act:Str)(tg:Tgt)(dd:W.Dat)(idx':Nat)(past':Bool):Prop :=
  (Zfj TX FN chars tg dd∧idx'=idx∧past'=past)∨(ZF chars tg∧Jq TX FN sn past codes idx act dd∧idx'=Zt mv codes.length idx∧past'=Zs mv past codes.length idx)
theorem Jf {past:Bool}{codes:List Int}{idx:Nat}{act:Str}(hnn:∀ c∈codes,0≤c)(h:Y4 past codes idx act) : -1≤codes.getD idx (-1)∧codes.getD idx (-1)≤1114111∧(codes.getD idx (-1) = -1 ↔ codes.length≤idx):=by
  by_cases hl:idx<codes.length
  · have h0:=Uu hnn hl
    have h1:¬ 1114111<codes.getD idx (-1):=fun x=>h.2 ⟨hl,x⟩
    exact ⟨by tb_start,by tb_start,by tb_start⟩
  · have e:codes.getD idx (-1) = -1:=by simp [hl]
    rw [e]
    exact ⟨by tb_start,by tb_start,by tb_start⟩
theorem Zap {TX:List Str}{codes:List Int}{idx:Nat}(h:codes.getD idx (-1) = -1 ↔ codes.length≤idx)(e:codes.getD idx (-1) = -1):Uk TX true codes idx 4 24:=by
  unfold Uk;rw [if_pos rfl];exact ⟨rfl,.inl ⟨h.mp e,rfl⟩⟩
theorem Zb2 {TX:List Str}{codes:List Int}{idx j:Nat}(h:codes.getD idx (-1) = -1 ↔ codes.length≤idx)(e:codes.getD idx (-1) ≠ -1)(g:TX[j]? = some (Zd6 (codes.getD idx (-1)))):Uk TX true codes idx 4 j:=by
  unfold Uk;rw [if_pos rfl];exact ⟨rfl,.inr ⟨Nat.lt_of_not_le fun x=>e (h.mpr x),j,g,rfl⟩⟩
theorem GM {TX:List Str}{codes:List Int}{idx:Nat}:Uk TX false codes idx 5 (codes.getD idx (-1)):=by
  unfold Uk;rw [if_neg (by decide)];exact ⟨rfl,rfl⟩
section
variable {w:World}{p:Program}{loose:List Str}{mean:ExcName→Option Value}{mg mb:Str→Option Value}
   {dp un:Nat}{gd:Option (List Code)}{cn:Str}{cs:Scope}{a:Addr}{ccd:Value}{cl:List (Str×Addr)}{outer:List Env}{A₀:Around}{base h₀:Heap}{L:Addr}{m:Str→Option Value}{s:Shared}{Q E:Value→Shared→Prop}
   (B:Below A₀ base outer h₀)(F:Fr h₀ L s.heap m)(X:(K w.params).In h₀)(T:Top p loose mean mg mb h₀)(hk:cs.kind = .function)
include B F X T hk
theorem Gh {sto:Nat}{mv:Bool}{sym sd tl an fl fn n:Nat}{jy:Hs}{jf:Hs}{inp outp files alia actn pst f_n:Nat}{ft8:Tok}{flo flod:Nat}{nxt:Int}{jm:Hs}{mcode xl grd rts bgs dbs m_n:Nat}{mad mmd:Nat}{jd:Hs}{oprs flgs d_n:Nat}{dbd:Nat}{sn pj cj ce pe idx:Nat}{oin ops oac:Obj}{kin kps kac:List (Int×Value)}{past:Bool}{act:Str}{cv:List Value}{codes:List Int}{ti tn ta:Tok}{TX:List Str}{FN:List (Int×Int)}{S news rest:List (Addr×Obj)}
   (N:News h₀ L s.heap news)(P:Tk ((pj,W.listOf [.ref cj,.int idx ti].toArray pe)::(pst,ops)::S) news rest)(hS:Zh w tl an fl fn TX FN S)(D:Za news)(hm1:(sym,instObj 154 sd)∈rest)(hm2:(sd,Zq jy tl an fl fn n)∈rest)(mm1:(mad,instObj 1104 mmd)∈rest)(mm2:(mmd,ZB jm sym mcode sto xl grd rts bgs dbs m_n)∈rest)(md1:(dbs,instObj 1083 dbd)∈rest)(md2:(dbd,Z8 jd flo oprs flgs d_n)∈rest)(mf1:(flo,instObj 541 flod)∈rest)(mf2:(flod,ZL jf inp outp files alia actn pst nxt ft8 f_n)∈rest)
   (mi:(inp,oin)∈rest)(hi:oin.IsDictOf (intKind PR w) kin)(hv:valueAt kin (sn:Int)=some (.ref pj))
   (mc:(cj,W.listOf cv.toArray ce)∈rest)(hc:IntsAre cv codes)(hlen:codes.length<50)(hidx:idx<1000)(hnn:∀ c∈codes,0≤c)
   (hps:ops.IsDictOf (intKind PR w) kps)(hpb:(valueAt kps (sn:Int)).isSome=past)(lop:(pst==sysModules)=false)(hpz:kps.length<1000)
   (mac:(actn,oac)∈rest)(hac:oac.IsDictOf (intKind PR w) kac)(hva:valueAt kac (sn:Int)=some (.str act ta))(loa:(actn==sysModules)=false)
   (hb:TX.length<30000)(hb':FN.length<30000)
   (hdp:dp+70<recursionLimit)(hun:un+400<cLine)
   (ret:∀ (t ti':Tok)(pe':Nat)(kps':List (Int×Value))(ops':Obj)(h':Heap)(tk':Nat),Y4 past codes idx act → -1≤codes.getD idx (-1)→codes.getD idx (-1)≤1114111→(codes.getD idx (-1) = -1 ↔ codes.length≤idx)→Zr w sn kps kps' ops' (Zs mv past codes.length idx)→Fr h₀ L h' m→News h₀ L h' ((pj,W.listOf [.ref cj,.int (Zt mv codes.length idx) ti'].toArray pe')::(pst,ops')::(S++rest))→Za ((pj,W.listOf [.ref cj,.int (Zt mv codes.length idx) ti'].toArray pe')::(pst,ops')::(S++rest))→Q (.int (codes.getD idx (-1)) t) {s with heap:=h',toks:=tk'})
   (exc:∀ (e d bv:Nat)(hsh:Int)(tk ti':Tok)(pe':Nat)(kps':List (Int×Value))(ops':Obj)(TX':List Str)(FN':List (Int×Int))(S' TT':List (Addr×Obj))(dd:W.Dat)(g' h':Heap)(tk':Nat),Jq TX' FN' sn past codes idx act dd→Zr w sn kps kps' ops' (Zs mv past codes.length idx)→Zh w tl an fl fn TX' FN' S'→Fr h₀ L g' m →
      RaisedD base g' (envX cn cs L a ccd cl::outer) e (.ref 51) d ((d,dictOf [⟨hsh,.str ball tk,.ref bv⟩] 1)::(pj,W.listOf [.ref cj,.int (Zt mv codes.length idx) ti'].toArray pe')::(pst,ops')::(S'++(TT'++rest))) h'→g'.UpToSlots h'→Za ((d,dictOf [⟨hsh,.str ball tk,.ref bv⟩] 1)::(pj,W.listOf [.ref cj,.int (Zt mv codes.length idx) ti'].toArray pe')::(pst,ops')::(S'++(TT'++rest))) →
      W.DatIn TT' (.ref bv) dd→TX<+:TX'→TX'.length≤TX.length+4→FN<+:FN'→FN'.length≤FN.length+2→E (.ref e) {s with heap:=h',toks:=tk'}) :
   wpAny (model PR w) (ktrTop dp un gd cn cs L a ccd cl outer) (call (.ref 566) [.ref mad,.int sn tn,.bool mv]) Q E s:=by
  delta Zq ZL ZB Z8 at *
  cases mv with
  | true=>exact ZeT B F X T hk N P hS D hm1 hm2 mm1 mm2 md1 md2 mf1 mf2 mi hi hv mc hc hlen hidx hnn hps hpb lop hpz mac hac hva loa hb hb' hdp hun (fun t ti' pe' kps' ops' h' tk' ok=>(Jf hnn ok).elim fun a b=>b.elim fun b c=>ret t ti' pe' kps' ops' h' tk' ok a b c) exc
  | false=>exact ZeU B F X T hk N P hS D hm1 hm2 mm1 mm2 md1 md2 mf1 mf2 mi hi hv mc hc hlen hidx hnn hps hpb lop hpz mac hac hva loa hb hb' hdp hun (fun t ti' pe' kps' ops' h' tk' ok=>(Jf hnn ok).elim fun a b=>b.elim fun b c=>ret t ti' pe' kps' ops' h' tk' ok a b c) exc
theorem Znz:True:=by
  walk_at "G der"
  k_with "call ref" =>(k_here;(with_reducible show wpAny _ _ (call (Value.ref 947) _) _ _ _);k_dflt (refine' Zeg (B:=?zB) (F:=?zF) (X:=?zX) (T:=?zT) (hk:=?zhk) (N:=?zN) (hdp:=?zhdp) (hun:=?zhun) (mm1:=?zmm1) (mm2:=?zmm2) (ms1:=?zms1) (ms2:=?zms2) (mx:=?zmx) (hx:=?zhx) (dr:=?zdr) (ret:=?_);k_extra "z6";(case zmm1=>k_mem);(case zmm2=>k_mem);(case zms1=>k_mem);(case zms2=>k_mem);(case zmx=>k_mem);(case zhx=>first|with_reducible assumption|k_asm);(case zdr=>first|with_reducible assumption|k_asm);(case zhdp=>ktr_room);(case zhun=>ktr_units));intro h' tk' F' N';(try dsimp only))
  k_with "call ref" =>(k_here;(with_reducible show wpAny _ _ (call (Value.ref 890) _) _ _ _);k_dflt (refine' J5 (B:=?zB) (F:=?zF) (X:=?zX) (T:=?zT) (hk:=?zhk) (N:=?zN) (hdp:=?zhdp) (hun:=?zhun) (ms1:=?zms1) (ms2:=?zms2) (mh:=?zmh) (mc:=?zmc) (mc2:=?zmc2) (q0:=?zq0) (q1:=?zq1) (hsz:=?zhsz) (D:=?zD) (ret:=?_);k_extra "z6";(case zms1=>k_mem);(case zms2=>k_mem);(case zmh=>k_mem);(case zmc=>k_mem);(case zmc2=>k_mem);(case zq0=>tb_start);(case zq1=>tb_start);(case zhsz=>first|with_reducible assumption|k_asm);(case zhdp=>ktr_room);(case zhun=>ktr_units);(case zD=>ktr_unf));intro b' h' tk' hb' F' N';(try dsimp only))
  k_with "call ref" =>(k_here;(with_reducible show wpAny _ _ (call (Value.ref 890) _) _ _ _);k_dflt (refine' J4 (B:=?zB) (F:=?zF) (X:=?zX) (T:=?zT) (hk:=?zhk) (N:=?zN) (hdp:=?zhdp) (hun:=?zhun) (ms1:=?zms1) (ms2:=?zms2) (P:=?zP) (D:=?zD) (mc:=?zmc) (mc2:=?zmc2) (hsz:=?zhsz) (q0:=?zq0) (q1:=?zq1) (q2:=?zq2) (ret:=?_);k_extra "z6";(case zq1=>with_reducible assumption);(case zq0=>with_reducible assumption);(case zP=>ktr_rel);(case zms1=>k_mem);(case zms2=>k_mem);(case zmc=>k_mem);(case zmc2=>k_mem);(case zhsz=>first|with_reducible assumption|k_asm);(case zq2=>tb_start);(case zhdp=>ktr_room);(case zhun=>ktr_units);(case zD=>ktr_unf));intro h' tk' F' N' D';(try dsimp only))
  k_with "call ref" =>(k_here;(with_reducible show wpAny _ _ (call (Value.ref 573) _) _ _ _);k_dflt (refine' Zea (B:=?zB) (F:=?zF) (X:=?zX) (T:=?zT) (hk:=?zhk) (N:=?zN) (hdp:=?zhdp) (hun:=?zhun) (mm1:=?zmm1) (mm2:=?zmm2) (ms1:=?zms1) (ms2:=?zms2) (mc:=?zmc) (mh:=?zmh) (q0:=?zq0) (q1:=?zq1) (ret:=?_);k_extra "z6";(case zmm1=>k_mem);(case zmm2=>k_mem);(case zms1=>k_mem);(case zms2=>k_mem);(case zmc=>k_mem);(case zmh=>k_mem);(case zq0=>first|with_reducible assumption|k_asm);(case zq1=>first|with_reducible assumption|k_asm);(case zhdp=>ktr_room);(case zhun=>ktr_units));intro h' tk' F' N';(try dsimp only))
  k_with "call ref" =>(k_here;(with_reducible show wpAny _ _ (call (Value.ref 88) _) _ _ _);k_dflt (refine' ZW (B:=?zB) (F:=?zF) (X:=?zX) (T:=?zT) (hk:=?zhk) (N:=?zN) (hdp:=?zhdp) (hun:=?zhun) (hm1:=?zhm1) (hm2:=?zhm2) (hS:=?zhS) (P:=?zP) (D:=?zD) (hb:=?zhb) (ret:=?_);k_extra "z6";(case zhS=>first|with_reducible assumption|k_asm);(case zP=>ktr_rel);(case zhm1=>k_mem);(case zhm2=>k_mem);(case zhb=>tb_start);(case zhdp=>ktr_room);(case zhun=>ktr_units);(case zD=>ktr_unf));intro i' t' TX' S' h' tk' hi' pre' len' hS' F' N' D';(try dsimp only))
  k_with "call ref" =>(k_here;(with_reducible show wpAny _ _ (call (Value.ref 566) _) _ _ _);k_dflt (refine' Gh (B:=?zB) (F:=?zF) (X:=?zX) (T:=?zT) (hk:=?zhk) (N:=?zN) (hdp:=?zhdp) (hun:=?zhun) (hm1:=?zhm1) (hm2:=?zhm2) (mm1:=?zmm1) (mm2:=?zmm2) (md1:=?zmd1) (md2:=?zmd2) (mf1:=?zmf1) (mf2:=?zmf2) (mi:=?zmi) (mc:=?zmc) (mac:=?zmac) (hS:=?zhS) (hi:=?zhi) (hv:=?zhv) (hc:=?zhc) (hnn:=?zhnn) (hps:=?zhps) (hpb:=?zhpb) (lop:=?zlop) (hac:=?zhac) (hva:=?zhva) (loa:=?zloa) (P:=?zP) (D:=?zD) (hlen:=?zhlen) (hidx:=?zhidx) (hb:=?zhb) (hb':=?zhb') (hpz:=?zhpz) (ret:=fun t' ti' pe' kps' ops' h' tk' hok' hc1' hc2' hc3' hpt' F' N' D'=>?_) (exc:=fun e' d' bv' hsh' tk' ti' pe' kps' ops' TX' FN' S' TT' dd' g' h' tkk' her' hpt' hS' F' R' U' D' hdd' pre' len' pref' lenf'=>?_);k_extra "z6";(case zhS=>first|with_reducible assumption|k_asm);(case zhpz=>with_reducible assumption);(case zhps=>with_reducible assumption);(case zP=>ktr_rel);(case zhm1=>k_mem);(case zhm2=>k_mem);(case zmm1=>k_mem);(case zmm2=>k_mem);(case zmd1=>k_mem);(case zmd2=>k_mem);(case zmf1=>k_mem);(case zmf2=>k_mem);(case zmi=>k_mem);(case zmc=>k_mem);(case zmac=>k_mem);(case zhi=>first|with_reducible assumption|k_asm);(case zhv=>first|with_reducible assumption|k_asm);(case zhc=>first|with_reducible assumption|k_asm);(case zhnn=>first|with_reducible assumption|k_asm);(case zhpb=>first|with_reducible assumption|k_asm);(case zlop=>first|with_reducible assumption|k_asm);(case zhac=>first|with_reducible assumption|k_asm);(case zhva=>first|with_reducible assumption|k_asm);(case zloa=>first|with_reducible assumption|k_asm);(case zhlen=>tb_start);(case zhidx=>tb_start);(case zhb=>tb_start);(case zhb'=>tb_start);(case zhdp=>ktr_room);(case zhun=>ktr_units);(case zD=>ktr_unf));all_goals (try dsimp only))
  trivial
theorem Wo {mv:Bool}{sym sd tl an fl fn n:Nat}{jy:Hs}{js:Hs}{hp stk trl s_n:Nat}{sto stod:Nat}{jf:Hs}{inp outp files alia actn pst f_n:Nat}{ft8:Tok}{flo flod:Nat}{nxt:Int}{jm:Hs}{mcode xl grd rts bgs dbs m_n:Nat}{mad mmd:Nat}{jd:Hs}{oprs flgs d_n:Nat}{dbd:Nat}{c k he xe:Nat}{hv' xv:Array Value}{t1 t2 tp:Tok}{sn pj cj ce pe idx:Nat}{oin ops oac:Obj}{kin kps kac:List (Int×Value)}{past:Bool}{act:Str}{cv:List Value}{codes:List Int}{ti tn ta:Tok}{TX:List Str}{FN:List (Int×Int)}{S news rest:List (Addr×Obj)}
   (N:News h₀ L s.heap news)(P:Tk ((hp,W.listOf hv' he)::(pj,W.listOf [.ref cj,.int idx ti].toArray pe)::(pst,ops)::S) news rest)(hS:Zh w tl an fl fn TX FN S)(D:Za news)(hm1:(sym,instObj 154 sd)∈rest)(hm2:(sd,Zq jy tl an fl fn n)∈rest)(ms1:(sto,instObj 430 stod)∈rest)(ms2:(stod,Zy js sym hp stk trl s_n)∈rest)(mm1:(mad,instObj 1104 mmd)∈rest)(mm2:(mmd,ZB jm sym mcode sto xl grd rts bgs dbs m_n)∈rest)(md1:(dbs,instObj 1083 dbd)∈rest)(md2:(dbd,Z8 jd flo oprs flgs d_n)∈rest)(mf1:(flo,instObj 541 flod)∈rest)(mf2:(flod,ZL jf inp outp files alia actn pst nxt ft8 f_n)∈rest)
   (mc':(c,Zk 0 k t1 t2)∈rest)(q0:hv'[k]? = some (.ref c))(q1:k<100000)(hsz:Zl hv')(mx:(xl,W.listOf xv xe)∈rest)(hx:xv[1]? = some (.ref c))
   (mi:(inp,oin)∈rest)(hi:oin.IsDictOf (intKind PR w) kin)(hv:valueAt kin (sn:Int)=some (.ref pj))
   (mc:(cj,W.listOf cv.toArray ce)∈rest)(hc:IntsAre cv codes)(hlen:codes.length<50)(hidx:idx<1000)(hnn:∀ c∈codes,0≤c)
   (hps:ops.IsDictOf (intKind PR w) kps)(hpb:(valueAt kps (sn:Int)).isSome=past)(lop:(pst==sysModules)=false)(hpz:kps.length<1000)
   (mac:(actn,oac)∈rest)(hac:oac.IsDictOf (intKind PR w) kac)(hva:valueAt kac (sn:Int)=some (.str act ta))(loa:(actn==sysModules)=false)
   (hb:TX.length<20000)(hb':FN.length<20000)
   (hdp:dp+100<recursionLimit)(hun:un+700<cLine)
   (ret:∀ (c2:Nat)(v:Int)(t3 t4 ti':Tok)(pe':Nat)(kps':List (Int×Value))(ops':Obj)(TX':List Str)(S':List (Addr×Obj))(h':Heap)(tk':Nat),Y4 past codes idx act→Uk TX' true codes idx 4 v→Zr w sn kps kps' ops' (Zs mv past codes.length idx)→Zh w tl an fl fn TX' FN S'→TX<+:TX'→TX'.length≤TX.length+1→Fr h₀ L h' m →
      News h₀ L h' ((c2,Zk 4 v t3 t4)::(hp,W.listOf (hv'.setIfInBounds k (.ref c2)) he)::(pj,W.listOf [.ref cj,.int (Zt mv codes.length idx) ti'].toArray pe')::(pst,ops')::(S'++rest))→Za ((c2,Zk 4 v t3 t4)::(hp,W.listOf (hv'.setIfInBounds k (.ref c2)) he)::(pj,W.listOf [.ref cj,.int (Zt mv codes.length idx) ti'].toArray pe')::(pst,ops')::(S'++rest))→Q (.bool true) {s with heap:=h',toks:=tk'})
   (exc:∀ (e d bv:Nat)(hsh:Int)(tk ti':Tok)(pe' idx':Nat)(past':Bool)(kps':List (Int×Value))(ops':Obj)(TX':List Str)(FN':List (Int×Int))(S' TT':List (Addr×Obj))(dd:W.Dat)(g' h':Heap)(tk':Nat),Wx TX' FN' true mv sn past codes idx act .v dd idx' past'→Zr w sn kps kps' ops' past'→Zh w tl an fl fn TX' FN' S'→Fr h₀ L g' m →
      RaisedD base g' (envX cn cs L a ccd cl::outer) e (.ref 51) d ((d,dictOf [⟨hsh,.str ball tk,.ref bv⟩] 1)::(hp,W.listOf hv' he)::(pj,W.listOf [.ref cj,.int idx' ti'].toArray pe')::(pst,ops')::(S'++(TT'++rest))) h'→g'.UpToSlots h'→Za ((d,dictOf [⟨hsh,.str ball tk,.ref bv⟩] 1)::(hp,W.listOf hv' he)::(pj,W.listOf [.ref cj,.int idx' ti'].toArray pe')::(pst,ops')::(S'++(TT'++rest))) →
      W.DatIn TT' (.ref bv) dd→TX<+:TX'→TX'.length≤TX.length+6→FN<+:FN'→FN'.length≤FN.length+3→E (.ref e) {s with heap:=h',toks:=tk'}) :
   wpAny (model PR w) (ktrTop dp un gd cn cs L a ccd cl outer) (call (.ref 587) [.ref mad,.int sn tn,.int 1 tp,.bool mv]) Q E s:=by
  delta Zq Zy ZL ZB Z8 at *
  have N₁:News h₀ L s.heap ((hp,W.listOf hv' he)::(pj,W.listOf [.ref cj,.int idx ti].toArray pe)::(pst,ops)::(S++rest)):=Ze N P.perm
  have D₁:Za ((hp,W.listOf hv' he)::(pj,W.listOf [.ref cj,.int idx ti].toArray pe)::(pst,ops)::(S++rest)):=D.perm P.perm
  clear N D P
  refine wpAny_call ?_
  k_dflt cell_enter
  k_steps
  · rename News _ _ _ _=>nN
    have nD:=Zd nN (by ktr_unf)
    exact ret _ _ _ _ _ _ _ _ _ _ _ _ (by assumption) (Zap (by assumption) (by assumption)) (by assumption) hS (List.prefix_refl _) (by tb_start) (by k_asm) (Zc nN (by ktr_rel)) (Zb nD (by ktr_rel))
  · rename News _ _ _ _=>nN
    have nD:=Zd nN (by ktr_unf)
    exact ret _ _ _ _ _ _ _ _ _ _ _ _ (by assumption) (Zb2 (by assumption) (by assumption) (by assumption)) (by assumption) (by assumption) (by assumption) (by tb_start) (by k_asm) (Zc nN (by ktr_rel)) (Zb nD (by ktr_rel))
  · rename RaisedD _ _ _ _ _ _ _ _=>nR
    rename Za _=>nD
    exact exc _ _ _ _ _ _ _ _ _ _ _ _ _ _ _ _ _ _ _ (.inr ⟨trivial,by assumption,rfl,rfl⟩) (by assumption) (by assumption) (by k_asm) (Zi nR (by ktr_rel)) (by assumption) (Zb nD (by ktr_rel)) (by assumption) (by assumption) (by tb_start) (by assumption) (by tb_start)
end
theorem Zny:True:=by
  walk_at "RST"
  walk_at "G slE"
  trivial
section
variable {w:World}{p:Program}{loose:List Str}{mean:ExcName→Option Value}{mg mb:Str→Option Value}
   {dp un:Nat}{gd:Option (List Code)}{cn:Str}{cs:Scope}{a:Addr}{ccd:Value}{cl:List (Str×Addr)}{outer:List Env}{A₀:Around}{base h₀:Heap}{L:Addr}{m:Str→Option Value}{s:Shared}{Q E:Value→Shared→Prop}
   (B:Below A₀ base outer h₀)(F:Fr h₀ L s.heap m)(X:(K w.params).In h₀)(T:Top p loose mean mg mb h₀)(hk:cs.kind = .function)
include B F X T hk
theorem Znx:True:=by
  walk_at "G der"
  k_with "call ref" =>(k_here;(with_reducible show wpAny _ _ (call (Value.ref 947) _) _ _ _);k_dflt (refine' Zeg (B:=?zB) (F:=?zF) (X:=?zX) (T:=?zT) (hk:=?zhk) (N:=?zN) (hdp:=?zhdp) (hun:=?zhun) (mm1:=?zmm1) (mm2:=?zmm2) (ms1:=?zms1) (ms2:=?zms2) (mx:=?zmx) (hx:=?zhx) (dr:=?zdr) (ret:=?_);k_extra "z6";(case zmm1=>k_mem);(case zmm2=>k_mem);(case zms1=>k_mem);(case zms2=>k_mem);(case zmx=>k_mem);(case zhx=>first|with_reducible assumption|k_asm);(case zdr=>first|with_reducible assumption|k_asm);(case zhdp=>ktr_room);(case zhun=>ktr_units));intro h' tk' F' N';(try dsimp only))
  k_with "call ref" =>(k_here;(with_reducible show wpAny _ _ (call (Value.ref 890) _) _ _ _);k_dflt (refine' J5 (B:=?zB) (F:=?zF) (X:=?zX) (T:=?zT) (hk:=?zhk) (N:=?zN) (hdp:=?zhdp) (hun:=?zhun) (ms1:=?zms1) (ms2:=?zms2) (mh:=?zmh) (mc:=?zmc) (mc2:=?zmc2) (q0:=?zq0) (q1:=?zq1) (hsz:=?zhsz) (D:=?zD) (ret:=?_);k_extra "z6";(case zms1=>k_mem);(case zms2=>k_mem);(case zmh=>k_mem);(case zmc=>k_mem);(case zmc2=>k_mem);(case zq0=>tb_start);(case zq1=>tb_start);(case zhsz=>first|with_reducible assumption|k_asm);(case zhdp=>ktr_room);(case zhun=>ktr_units);(case zD=>ktr_unf));intro b' h' tk' hb' F' N';(try dsimp only))
  k_with "call ref" =>(k_here;(with_reducible show wpAny _ _ (call (Value.ref 890) _) _ _ _);k_dflt (refine' J4 (B:=?zB) (F:=?zF) (X:=?zX) (T:=?zT) (hk:=?zhk) (N:=?zN) (hdp:=?zhdp) (hun:=?zhun) (ms1:=?zms1) (ms2:=?zms2) (P:=?zP) (D:=?zD) (mc:=?zmc) (mc2:=?zmc2) (hsz:=?zhsz) (q0:=?zq0) (q1:=?zq1) (q2:=?zq2) (ret:=?_);k_extra "z6";(case zq1=>with_reducible assumption);(case zq0=>with_reducible assumption);(case zP=>ktr_rel);(case zms1=>k_mem);(case zms2=>k_mem);(case zmc=>k_mem);(case zmc2=>k_mem);(case zhsz=>first|with_reducible assumption|k_asm);(case zq2=>tb_start);(case zhdp=>ktr_room);(case zhun=>ktr_units);(case zD=>ktr_unf));intro h' tk' F' N' D';(try dsimp only))
  k_with "call ref" =>(k_here;(with_reducible show wpAny _ _ (call (Value.ref 580) _) _ _ _);k_dflt (refine' Zd7 (B:=?zB) (F:=?zF) (X:=?zX) (T:=?zT) (hk:=?zhk) (N:=?zN) (hdp:=?zhdp) (hun:=?zhun) (mm1:=?zmm1) (mm2:=?zmm2) (ms1:=?zms1) (ms2:=?zms2) (mc:=?zmc) (mh:=?zmh) (q0:=?zq0) (q1:=?zq1) (ret:=?_);k_extra "z6";(case zmm1=>k_mem);(case zmm2=>k_mem);(case zms1=>k_mem);(case zms2=>k_mem);(case zmc=>k_mem);(case zmh=>k_mem);(case zq0=>first|with_reducible assumption|k_asm);(case zq1=>first|with_reducible assumption|k_asm);(case zhdp=>ktr_room);(case zhun=>ktr_units));intro h' tk' F' N';(try dsimp only))
  k_with "call ref" =>(k_here;(with_reducible show wpAny _ _ (call (Value.ref 88) _) _ _ _);k_dflt (refine' ZW (B:=?zB) (F:=?zF) (X:=?zX) (T:=?zT) (hk:=?zhk) (N:=?zN) (hdp:=?zhdp) (hun:=?zhun) (hm1:=?zhm1) (hm2:=?zhm2) (hS:=?zhS) (P:=?zP) (D:=?zD) (hb:=?zhb) (ret:=?_);k_extra "z6";(case zhS=>first|with_reducible assumption|k_asm);(case zP=>ktr_rel);(case zhm1=>k_mem);(case zhm2=>k_mem);(case zhb=>tb_start);(case zhdp=>ktr_room);(case zhun=>ktr_units);(case zD=>ktr_unf));intro i' t' TX' S' h' tk' hi' pre' len' hS' F' N' D';(try dsimp only))
  k_with "call ref" =>(k_here;(with_reducible show wpAny _ _ (call (Value.ref 566) _) _ _ _);k_dflt (refine' Gh (B:=?zB) (F:=?zF) (X:=?zX) (T:=?zT) (hk:=?zhk) (N:=?zN) (hdp:=?zhdp) (hun:=?zhun) (hm1:=?zhm1) (hm2:=?zhm2) (mm1:=?zmm1) (mm2:=?zmm2) (md1:=?zmd1) (md2:=?zmd2) (mf1:=?zmf1) (mf2:=?zmf2) (mi:=?zmi) (mc:=?zmc) (mac:=?zmac) (hS:=?zhS) (hi:=?zhi) (hv:=?zhv) (hc:=?zhc) (hnn:=?zhnn) (hps:=?zhps) (hpb:=?zhpb) (lop:=?zlop) (hac:=?zhac) (hva:=?zhva) (loa:=?zloa) (P:=?zP) (D:=?zD) (hlen:=?zhlen) (hidx:=?zhidx) (hb:=?zhb) (hb':=?zhb') (hpz:=?zhpz) (ret:=fun t' ti' pe' kps' ops' h' tk' hok' hc1' hc2' hc3' hpt' F' N' D'=>?_) (exc:=fun e' d' bv' hsh' tk' ti' pe' kps' ops' TX' FN' S' TT' dd' g' h' tkk' her' hpt' hS' F' R' U' D' hdd' pre' len' pref' lenf'=>?_);k_extra "z6";(case zhS=>first|with_reducible assumption|k_asm);(case zhpz=>with_reducible assumption);(case zhps=>with_reducible assumption);(case zP=>ktr_rel);(case zhm1=>k_mem);(case zhm2=>k_mem);(case zmm1=>k_mem);(case zmm2=>k_mem);(case zmd1=>k_mem);(case zmd2=>k_mem);(case zmf1=>k_mem);(case zmf2=>k_mem);(case zmi=>k_mem);(case zmc=>k_mem);(case zmac=>k_mem);(case zhi=>first|with_reducible assumption|k_asm);(case zhv=>first|with_reducible assumption|k_asm);(case zhc=>first|with_reducible assumption|k_asm);(case zhnn=>first|with_reducible assumption|k_asm);(case zhpb=>first|with_reducible assumption|k_asm);(case zlop=>first|with_reducible assumption|k_asm);(case zhac=>first|with_reducible assumption|k_asm);(case zhva=>first|with_reducible assumption|k_asm);(case zloa=>first|with_reducible assumption|k_asm);(case zhlen=>tb_start);(case zhidx=>tb_start);(case zhb=>tb_start);(case zhb'=>tb_start);(case zhdp=>ktr_room);(case zhun=>ktr_units);(case zD=>ktr_unf));all_goals (try dsimp only))
  trivial
theorem Wh {mv:Bool}{sym sd tl an fl fn n:Nat}{jy:Hs}{js:Hs}{hp stk trl s_n:Nat}{sto stod:Nat}{jf:Hs}{inp outp files alia actn pst f_n:Nat}{ft8:Tok}{flo flod:Nat}{nxt:Int}{jm:Hs}{mcode xl grd rts bgs dbs m_n:Nat}{mad mmd:Nat}{jd:Hs}{oprs flgs d_n:Nat}{dbd:Nat}{c k he xe:Nat}{hv' xv:Array Value}{t1 t2 tp:Tok}{sn pj cj ce pe idx:Nat}{oin ops oac:Obj}{kin kps kac:List (Int×Value)}{past:Bool}{act:Str}{cv:List Value}{codes:List Int}{ti tn ta:Tok}{TX:List Str}{FN:List (Int×Int)}{S news rest:List (Addr×Obj)}
   (N:News h₀ L s.heap news)(P:Tk ((hp,W.listOf hv' he)::(pj,W.listOf [.ref cj,.int idx ti].toArray pe)::(pst,ops)::S) news rest)(hS:Zh w tl an fl fn TX FN S)(D:Za news)(hm1:(sym,instObj 154 sd)∈rest)(hm2:(sd,Zq jy tl an fl fn n)∈rest)(ms1:(sto,instObj 430 stod)∈rest)(ms2:(stod,Zy js sym hp stk trl s_n)∈rest)(mm1:(mad,instObj 1104 mmd)∈rest)(mm2:(mmd,ZB jm sym mcode sto xl grd rts bgs dbs m_n)∈rest)(md1:(dbs,instObj 1083 dbd)∈rest)(md2:(dbd,Z8 jd flo oprs flgs d_n)∈rest)(mf1:(flo,instObj 541 flod)∈rest)(mf2:(flod,ZL jf inp outp files alia actn pst nxt ft8 f_n)∈rest)
   (mc':(c,Zk 0 k t1 t2)∈rest)(q0:hv'[k]? = some (.ref c))(q1:k<100000)(hsz:Zl hv')(mx:(xl,W.listOf xv xe)∈rest)(hx:xv[1]? = some (.ref c))
   (mi:(inp,oin)∈rest)(hi:oin.IsDictOf (intKind PR w) kin)(hv:valueAt kin (sn:Int)=some (.ref pj))
   (mc:(cj,W.listOf cv.toArray ce)∈rest)(hc:IntsAre cv codes)(hlen:codes.length<50)(hidx:idx<1000)(hnn:∀ c∈codes,0≤c)
   (hps:ops.IsDictOf (intKind PR w) kps)(hpb:(valueAt kps (sn:Int)).isSome=past)(lop:(pst==sysModules)=false)(hpz:kps.length<1000)
   (mac:(actn,oac)∈rest)(hac:oac.IsDictOf (intKind PR w) kac)(hva:valueAt kac (sn:Int)=some (.str act ta))(loa:(actn==sysModules)=false)
   (hb:TX.length<20000)(hb':FN.length<20000)
   (hdp:dp+100<recursionLimit)(hun:un+700<cLine)
   (ret:∀ (c2:Nat)(v:Int)(t3 t4 ti':Tok)(pe':Nat)(kps':List (Int×Value))(ops':Obj)(TX':List Str)(S':List (Addr×Obj))(h':Heap)(tk':Nat),Y4 past codes idx act→Uk TX' false codes idx 5 v→Zr w sn kps kps' ops' (Zs mv past codes.length idx)→Zh w tl an fl fn TX' FN S'→TX<+:TX'→TX'.length≤TX.length+1→Fr h₀ L h' m →
      News h₀ L h' ((c2,Zk 5 v t3 t4)::(hp,W.listOf (hv'.setIfInBounds k (.ref c2)) he)::(pj,W.listOf [.ref cj,.int (Zt mv codes.length idx) ti'].toArray pe')::(pst,ops')::(S'++rest))→Za ((c2,Zk 5 v t3 t4)::(hp,W.listOf (hv'.setIfInBounds k (.ref c2)) he)::(pj,W.listOf [.ref cj,.int (Zt mv codes.length idx) ti'].toArray pe')::(pst,ops')::(S'++rest))→Q (.bool true) {s with heap:=h',toks:=tk'})
   (exc:∀ (e d bv:Nat)(hsh:Int)(tk ti':Tok)(pe' idx':Nat)(past':Bool)(kps':List (Int×Value))(ops':Obj)(TX':List Str)(FN':List (Int×Int))(S' TT':List (Addr×Obj))(dd:W.Dat)(g' h':Heap)(tk':Nat),Wx TX' FN' false mv sn past codes idx act .v dd idx' past'→Zr w sn kps kps' ops' past'→Zh w tl an fl fn TX' FN' S'→Fr h₀ L g' m →
      RaisedD base g' (envX cn cs L a ccd cl::outer) e (.ref 51) d ((d,dictOf [⟨hsh,.str ball tk,.ref bv⟩] 1)::(hp,W.listOf hv' he)::(pj,W.listOf [.ref cj,.int idx' ti'].toArray pe')::(pst,ops')::(S'++(TT'++rest))) h'→g'.UpToSlots h'→Za ((d,dictOf [⟨hsh,.str ball tk,.ref bv⟩] 1)::(hp,W.listOf hv' he)::(pj,W.listOf [.ref cj,.int idx' ti'].toArray pe')::(pst,ops')::(S'++(TT'++rest))) →
      W.DatIn TT' (.ref bv) dd→TX<+:TX'→TX'.length≤TX.length+6→FN<+:FN'→FN'.length≤FN.length+3→E (.ref e) {s with heap:=h',toks:=tk'}) :
   wpAny (model PR w) (ktrTop dp un gd cn cs L a ccd cl outer) (call (.ref 594) [.ref mad,.int sn tn,.int 1 tp,.bool mv]) Q E s:=by
  delta Zq Zy ZL ZB Z8 at *
  have N₁:News h₀ L s.heap ((hp,W.listOf hv' he)::(pj,W.listOf [.ref cj,.int idx ti].toArray pe)::(pst,ops)::(S++rest)):=Ze N P.perm
  have D₁:Za ((hp,W.listOf hv' he)::(pj,W.listOf [.ref cj,.int idx ti].toArray pe)::(pst,ops)::(S++rest)):=D.perm P.perm
  clear N D P
  refine wpAny_call ?_
  k_dflt cell_enter
  k_steps
  · rename News _ _ _ _=>nN
    have nD:=Zd nN (by ktr_unf)
    exact ret _ _ _ _ _ _ _ _ _ _ _ _ (by assumption) GM (by assumption) hS (List.prefix_refl _) (by tb_start) (by k_asm) (Zc nN (by ktr_rel)) (Zb nD (by ktr_rel))
  · rename RaisedD _ _ _ _ _ _ _ _=>nR
    rename Za _=>nD
    exact exc _ _ _ _ _ _ _ _ _ _ _ _ _ _ _ _ _ _ _ (.inr ⟨trivial,by assumption,rfl,rfl⟩) (by assumption) (by assumption) (by k_asm) (Zi nR (by ktr_rel)) (by assumption) (Zb nD (by ktr_rel)) (by assumption) (by assumption) (by tb_start) (by assumption) (by tb_start)
end
theorem Znw:True:=by
  walk_at "RST"
  walk_at "G slE"
  trivial
section
variable {w:World}{p:Program}{loose:List Str}{mean:ExcName→Option Value}{mg mb:Str→Option Value}
   {dp un:Nat}{gd:Option (List Code)}{cn:Str}{cs:Scope}{a:Addr}{ccd:Value}{cl:List (Str×Addr)}{outer:List Env}{A₀:Around}{base h₀:Heap}{L:Addr}{m:Str→Option Value}{s:Shared}{Q E:Value→Shared→Prop}
   (B:Below A₀ base outer h₀)(F:Fr h₀ L s.heap m)(X:(K w.params).In h₀)(T:Top p loose mean mg mb h₀)(hk:cs.kind = .function)
include B F X T hk
theorem Znv:True:=by
  walk_at "G der"
  k_with "call ref" =>(k_here;(with_reducible show wpAny _ _ (call (Value.ref 947) _) _ _ _);k_dflt (refine' Zeg (B:=?zB) (F:=?zF) (X:=?zX) (T:=?zT) (hk:=?zhk) (N:=?zN) (hdp:=?zhdp) (hun:=?zhun) (mm1:=?zmm1) (mm2:=?zmm2) (ms1:=?zms1) (ms2:=?zms2) (mx:=?zmx) (hx:=?zhx) (dr:=?zdr) (ret:=?_);k_extra "z6";(case zmm1=>k_mem);(case zmm2=>k_mem);(case zms1=>k_mem);(case zms2=>k_mem);(case zmx=>k_mem);(case zhx=>first|with_reducible assumption|k_asm);(case zdr=>first|with_reducible assumption|k_asm);(case zhdp=>ktr_room);(case zhun=>ktr_units));intro h' tk' F' N';(try dsimp only))
  k_with "call ref" =>(k_here;(with_reducible show wpAny _ _ (call (Value.ref 890) _) _ _ _);k_dflt (refine' J5 (B:=?zB) (F:=?zF) (X:=?zX) (T:=?zT) (hk:=?zhk) (N:=?zN) (hdp:=?zhdp) (hun:=?zhun) (ms1:=?zms1) (ms2:=?zms2) (mh:=?zmh) (mc:=?zmc) (mc2:=?zmc2) (q0:=?zq0) (q1:=?zq1) (hsz:=?zhsz) (D:=?zD) (ret:=?_);k_extra "z6";(case zms1=>k_mem);(case zms2=>k_mem);(case zmh=>k_mem);(case zmc=>k_mem);(case zmc2=>k_mem);(case zq0=>tb_start);(case zq1=>tb_start);(case zhsz=>first|with_reducible assumption|k_asm);(case zhdp=>ktr_room);(case zhun=>ktr_units);(case zD=>ktr_unf));intro b' h' tk' hb' F' N';(try dsimp only))
  k_with "call ref" =>(k_here;(with_reducible show wpAny _ _ (call (Value.ref 890) _) _ _ _);k_dflt (refine' J4 (B:=?zB) (F:=?zF) (X:=?zX) (T:=?zT) (hk:=?zhk) (N:=?zN) (hdp:=?zhdp) (hun:=?zhun) (ms1:=?zms1) (ms2:=?zms2) (P:=?zP) (D:=?zD) (mc:=?zmc) (mc2:=?zmc2) (hsz:=?zhsz) (q0:=?zq0) (q1:=?zq1) (q2:=?zq2) (ret:=?_);k_extra "z6";(case zq1=>with_reducible assumption);(case zq0=>with_reducible assumption);(case zP=>ktr_rel);(case zms1=>k_mem);(case zms2=>k_mem);(case zmc=>k_mem);(case zmc2=>k_mem);(case zhsz=>first|with_reducible assumption|k_asm);(case zq2=>tb_start);(case zhdp=>ktr_room);(case zhun=>ktr_units);(case zD=>ktr_unf));intro h' tk' F' N' D';(try dsimp only))
  k_with "call ref" =>(k_here;(with_reducible show wpAny _ _ (call (Value.ref 573) _) _ _ _);k_dflt (refine' ZgS (B:=?zB) (F:=?zF) (X:=?zX) (T:=?zT) (hk:=?zhk) (N:=?zN) (hdp:=?zhdp) (hun:=?zhun) (hm1:=?zhm1) (hm2:=?zhm2) (ms1:=?zms1) (ms2:=?zms2) (mm1:=?zmm1) (mm2:=?zmm2) (mc:=?zmc) (hS:=?zhS) (hi:=?zhi) (hxl:=?zhxl) (P:=?zP) (D:=?zD) (hb:=?zhb) (hb':=?zhb') (ret:=fun h' tk' hok' F' N' D'=>?_) (exc:=fun e' d' bv' hsh' tk' TX' FN' S' TT' dd' g' h' tkk' hne' hty' hS' F' R' U' D' hdd' pre' len' pref' lenf'=>?_);k_extra "z6";(case zhS=>first|with_reducible assumption|k_asm);(case zP=>ktr_rel);(case zhm1=>k_mem);(case zhm2=>k_mem);(case zms1=>k_mem);(case zms2=>k_mem);(case zmm1=>k_mem);(case zmm2=>k_mem);(case zmc=>k_mem);(case zhi=>first|with_reducible assumption|k_asm);(case zhxl=>first|with_reducible assumption|k_asm);(case zhb=>tb_start);(case zhb'=>tb_start);(case zhdp=>ktr_room);(case zhun=>ktr_units);(case zD=>ktr_unf));all_goals (try dsimp only))
  k_with "call ref" =>(k_here;(with_reducible show wpAny _ _ (call (Value.ref 580) _) _ _ _);k_dflt (refine' ZgP (B:=?zB) (F:=?zF) (X:=?zX) (T:=?zT) (hk:=?zhk) (N:=?zN) (hdp:=?zhdp) (hun:=?zhun) (hm1:=?zhm1) (hm2:=?zhm2) (ms1:=?zms1) (ms2:=?zms2) (mm1:=?zmm1) (mm2:=?zmm2) (mc:=?zmc) (hS:=?zhS) (P:=?zP) (D:=?zD) (hb:=?zhb) (hb':=?zhb') (ret:=fun h' tk' hok' F' N' D'=>?_) (exc:=fun e' d' bv' hsh' tk' TX' FN' S' TT' dd' g' h' tkk' hne' hty' hS' F' R' U' D' hdd' pre' len' pref' lenf'=>?_);k_extra "z6";(case zhS=>first|with_reducible assumption|k_asm);(case zP=>ktr_rel);(case zhm1=>k_mem);(case zhm2=>k_mem);(case zms1=>k_mem);(case zms2=>k_mem);(case zmm1=>k_mem);(case zmm2=>k_mem);(case zmc=>k_mem);(case zhb=>tb_start);(case zhb'=>tb_start);(case zhdp=>ktr_room);(case zhun=>ktr_units);(case zD=>ktr_unf));all_goals (try dsimp only))
  k_with "call ref" =>(k_here;(with_reducible show wpAny _ _ (call (Value.ref 88) _) _ _ _);k_dflt (refine' ZW (B:=?zB) (F:=?zF) (X:=?zX) (T:=?zT) (hk:=?zhk) (N:=?zN) (hdp:=?zhdp) (hun:=?zhun) (hm1:=?zhm1) (hm2:=?zhm2) (hS:=?zhS) (P:=?zP) (D:=?zD) (hb:=?zhb) (ret:=?_);k_extra "z6";(case zhS=>first|with_reducible assumption|k_asm);(case zP=>ktr_rel);(case zhm1=>k_mem);(case zhm2=>k_mem);(case zhb=>tb_start);(case zhdp=>ktr_room);(case zhun=>ktr_units);(case zD=>ktr_unf));intro i' t' TX' S' h' tk' hi' pre' len' hS' F' N' D';(try dsimp only))
  k_with "call ref" =>(k_here;(with_reducible show wpAny _ _ (call (Value.ref 566) _) _ _ _);k_dflt (refine' Gh (B:=?zB) (F:=?zF) (X:=?zX) (T:=?zT) (hk:=?zhk) (N:=?zN) (hdp:=?zhdp) (hun:=?zhun) (hm1:=?zhm1) (hm2:=?zhm2) (mm1:=?zmm1) (mm2:=?zmm2) (md1:=?zmd1) (md2:=?zmd2) (mf1:=?zmf1) (mf2:=?zmf2) (mi:=?zmi) (mc:=?zmc) (mac:=?zmac) (hS:=?zhS) (hi:=?zhi) (hv:=?zhv) (hc:=?zhc) (hnn:=?zhnn) (hps:=?zhps) (hpb:=?zhpb) (lop:=?zlop) (hac:=?zhac) (hva:=?zhva) (loa:=?zloa) (P:=?zP) (D:=?zD) (hlen:=?zhlen) (hidx:=?zhidx) (hb:=?zhb) (hb':=?zhb') (hpz:=?zhpz) (ret:=fun t' ti' pe' kps' ops' h' tk' hok' hc1' hc2' hc3' hpt' F' N' D'=>?_) (exc:=fun e' d' bv' hsh' tk' ti' pe' kps' ops' TX' FN' S' TT' dd' g' h' tkk' her' hpt' hS' F' R' U' D' hdd' pre' len' pref' lenf'=>?_);k_extra "z6";(case zhS=>first|with_reducible assumption|k_asm);(case zhpz=>with_reducible assumption);(case zhps=>with_reducible assumption);(case zP=>ktr_rel);(case zhm1=>k_mem);(case zhm2=>k_mem);(case zmm1=>k_mem);(case zmm2=>k_mem);(case zmd1=>k_mem);(case zmd2=>k_mem);(case zmf1=>k_mem);(case zmf2=>k_mem);(case zmi=>k_mem);(case zmc=>k_mem);(case zmac=>k_mem);(case zhi=>first|with_reducible assumption|k_asm);(case zhv=>first|with_reducible assumption|k_asm);(case zhc=>first|with_reducible assumption|k_asm);(case zhnn=>first|with_reducible assumption|k_asm);(case zhpb=>first|with_reducible assumption|k_asm);(case zlop=>first|with_reducible assumption|k_asm);(case zhac=>first|with_reducible assumption|k_asm);(case zhva=>first|with_reducible assumption|k_asm);(case zloa=>first|with_reducible assumption|k_asm);(case zhlen=>tb_start);(case zhidx=>tb_start);(case zhb=>tb_start);(case zhb'=>tb_start);(case zhdp=>ktr_room);(case zhun=>ktr_units);(case zD=>ktr_unf));all_goals (try dsimp only))
  k_with "call ref" =>(k_here;k_dflt (refine' ZgR (B:=?B) (F:=?F) (X:=?X) (T:=?T) (hk:=?hk) (N:=?N) (hdp:=?hdp) (hun:=?hun) (hm1:=?hm1) (hm2:=?hm2) (ms1:=?ms1) (ms2:=?ms2) (mm1:=?mm1) (mm2:=?mm2) (mc:=?mc) (hS:=?hS) (P:=?P) (D:=?D) (hb:=?hb) (hb':=?hb') (exc:=fun e' d' bv' hsh' tk' TX' FN' S' TT' dd' g' h' tkk' hne' hty' hS' F' R' U' D' hdd' pre' len' pref' lenf'=>?_);(case B=>k_asm);(case F=>k_asm);(case X=>k_asm);(case T=>k_asm);(case hk=>first|exact rfl|assumption);(case N=>k_asm);(case hS=>first|with_reducible assumption|k_asm);(case P=>ktr_rel);(case hm1=>k_mem);(case hm2=>k_mem);(case ms1=>k_mem);(case ms2=>k_mem);(case mm1=>k_mem);(case mm2=>k_mem);(case mc=>k_mem);(case hb=>tb_start);(case hb'=>tb_start);(case hdp=>ktr_room);(case hun=>ktr_units);(case D=>ktr_unf));all_goals (try dsimp only))
  k_with "call ref" =>(k_here;k_dflt (refine' ZgQ (B:=?B) (F:=?F) (X:=?X) (T:=?T) (hk:=?hk) (N:=?N) (hdp:=?hdp) (hun:=?hun) (hm1:=?hm1) (hm2:=?hm2) (ms1:=?ms1) (ms2:=?ms2) (mm1:=?mm1) (mm2:=?mm2) (mc:=?mc) (hS:=?hS) (P:=?P) (D:=?D) (hb:=?hb) (hb':=?hb') (exc:=fun e' d' bv' hsh' tk' TX' FN' S' TT' dd' g' h' tkk' hne' hty' hS' F' R' U' D' hdd' pre' len' pref' lenf'=>?_);(case B=>k_asm);(case F=>k_asm);(case X=>k_asm);(case T=>k_asm);(case hk=>first|exact rfl|assumption);(case N=>k_asm);(case hS=>first|with_reducible assumption|k_asm);(case P=>ktr_rel);(case hm1=>k_mem);(case hm2=>k_mem);(case ms1=>k_mem);(case ms2=>k_mem);(case mm1=>k_mem);(case mm2=>k_mem);(case mc=>k_mem);(case hb=>tb_start);(case hb'=>tb_start);(case hdp=>ktr_room);(case hun=>ktr_units);(case D=>ktr_unf));all_goals (try dsimp only))
  trivial
omit B F X T hk in
noncomputable def Jj {mv:Bool}{sym sd tl an fl fn n:Nat}{jy js:Hs}{hp stk trl s_n sto stod:Nat}{jf:Hs}{ft8:Tok}{inp outp files alia actn pst f_n flo flod:Nat}{nxt:Int}{jm:Hs}{mcode xl grd rts bgs dbs m_n mad mmd:Nat}{jd:Hs}{oprs flgs d_n dbd c he xe i:Nat}{x:Str}{hv' xv:Array Value}{t1 t2 tp:Tok}{sn pj cj ce pe idx:Nat}{oin ops oac:Obj}{kin kps kac:List (Int×Value)}{past:Bool}{act:Str}{cv:List Value}{codes:List Int}{ti tn ta:Tok}{TX:List Str}{FN:List (Int×Int)}{S news rest:List (Addr×Obj)}:Prop:=∀ (B:Below A₀ base outer h₀)(F:Fr h₀ L s.heap m)(X:(K w.params).In h₀)(T:Top p loose mean mg mb h₀)(hk:cs.kind = .function)(N:News h₀ L s.heap news)(P:Tk ((pj,W.listOf [.ref cj,.int idx ti].toArray pe)::(pst,ops)::S) news rest)(hS:Zh w tl an fl fn TX FN S)(D:Za news)(hm1:(sym,instObj 154 sd)∈rest)(hm2:(sd,Zq jy tl an fl fn n)∈rest)(ms1:(sto,instObj 430 stod)∈rest)(ms2:(stod,Zy js sym hp stk trl s_n)∈rest)(mm1:(mad,instObj 1104 mmd)∈rest)(mm2:(mmd,ZB jm sym mcode sto xl grd rts bgs dbs m_n)∈rest)(md1:(dbs,instObj 1083 dbd)∈rest)(md2:(dbd,Z8 jd flo oprs flgs d_n)∈rest)(mf1:(flo,instObj 541 flod)∈rest)(mf2:(flod,ZL jf inp outp files alia actn pst nxt ft8 f_n)∈rest)(mc':(c,Zk 4 i t1 t2)∈rest)(mh:(hp,W.listOf hv' he)∈rest)(hit:TX[i]? = some x)(hxl:x.length<1000)(hsz:Zl hv')(mx:(xl,W.listOf xv xe)∈rest)(hx:xv[1]? = some (.ref c))(mi:(inp,oin)∈rest)(hi:oin.IsDictOf (intKind PR w) kin)(hv:valueAt kin (sn:Int)=some (.ref pj))(mc:(cj,W.listOf cv.toArray ce)∈rest)(hc:IntsAre cv codes)(hlen:codes.length<50)(hidx:idx<1000)(hnn:∀ c∈codes,0≤c)(hps:ops.IsDictOf (intKind PR w) kps)(hpb:(valueAt kps (sn:Int)).isSome=past)(lop:(pst==sysModules)=false)(hpz:kps.length<1000)(mac:(actn,oac)∈rest)(hac:oac.IsDictOf (intKind PR w) kac)(hva:valueAt kac (sn:Int)=some (.str act ta))(loa:(actn==sysModules)=false)(hb:TX.length<20000)(hb':FN.length<20000)(hdp:dp+100<recursionLimit)(hun:un+700<cLine)(ret:∀ (b:Bool)(v:Int)(ti':Tok)(pe':Nat)(kps':List (Int×Value))(ops':Obj)(TX':List Str)(S':List (Addr×Obj))(h':Heap)(tk':Nat),ZF true (.a i x)→Y4 past codes idx act→Uk TX' true codes idx 4 v→b=decide ((4:Int)=4∧(i:Int)=v)→Zr w sn kps kps' ops' (Zs mv past codes.length idx)→Zh w tl an fl fn TX' FN S'→TX<+:TX'→TX'.length≤TX.length+1→Fr h₀ L h' m →
      News h₀ L h' ((pj,W.listOf [.ref cj,.int (Zt mv codes.length idx) ti'].toArray pe')::(pst,ops')::(S'++rest))→Za ((pj,W.listOf [.ref cj,.int (Zt mv codes.length idx) ti'].toArray pe')::(pst,ops')::(S'++rest))→Q (.bool b) {s with heap:=h',toks:=tk'}) (exc:∀ (e d bv:Nat) (hsh:Int) (tk ti':Tok) (pe' idx':Nat) (past':Bool) (kps':List (Int×Value)) (ops':Obj) (TX':List Str) (FN':List (Int×Int)) (S' TT':List (Addr×Obj)) (dd:W.Dat) (g' h':Heap) (tk':Nat),Wx TX' FN' true mv sn past codes idx act (.a i x) dd idx' past'→Zr w sn kps kps' ops' past'→Zh w tl an fl fn TX' FN' S'→Fr h₀ L g' m →
      RaisedD base g' (envX cn cs L a ccd cl::outer) e (.ref 51) d ((d,dictOf [⟨hsh,.str ball tk,.ref bv⟩] 1)::(pj,W.listOf [.ref cj,.int idx' ti'].toArray pe')::(pst,ops')::(S'++(TT'++rest))) h'→g'.UpToSlots h'→Za ((d,dictOf [⟨hsh,.str ball tk,.ref bv⟩] 1)::(pj,W.listOf [.ref cj,.int idx' ti'].toArray pe')::(pst,ops')::(S'++(TT'++rest))) →
      W.DatIn TT' (.ref bv) dd→TX<+:TX'→TX'.length≤TX.length+6→FN<+:FN'→FN'.length≤FN.length+3→E (.ref e) {s with heap:=h',toks:=tk'}),
   wpAny (model PR w) (ktrTop dp un gd cn cs L a ccd cl outer) (call (.ref 587) [.ref mad,.int sn tn,.int 1 tp,.bool mv]) Q E s
noncomputable def Yk (c:Zf):Prop:=@cF _ (@Jj) c (c.z 0) (c.a 4) (c.a 5) (c.a 6) (c.a 7) (c.a 8) (c.a 9) (c.a 10) (c.vj 0) (c.vj 1) (c.a 11) (c.a 12) (c.a 13) (c.a 14) (c.a 15) (c.a 16) (c.vj 2) (c.o 0) (c.a 17) (c.a 18) (c.a 19) (c.a 20) (c.a 21) (c.a 22) (c.a 23) (c.a 24) (c.a 25) (c.m 0) (c.vj 3) (c.a 26) (c.a 27) (c.a 28) (c.a 29) (c.a 30) (c.a 31) (c.a 32) (c.a 33) (c.a 34) (c.vj 4) (c.a 35) (c.a 36) (c.a 37) (c.a 38) (c.a 39) (c.a 40) (c.a 41) (c.a 42) (c.n 1) (c.vc 0) (c.vc 1) (c.o 1) (c.o 2) (c.o 3) (c.a 43) (c.a 44) (c.a 45) (c.a 46) (c.a 47) (c.a 48) (c.v 0) (c.v 1) (c.v 2) (c.y 0) (c.y 1) (c.y 2) (c.z 1) (c.n 2) (c.u 0) (c.w 0) (c.o 4) (c.o 5) (c.o 6) (c.h 1) (c.t 0) (c.b 0) (c.b 1) (c.b 2)
omit B F X T hk in
noncomputable def Ji {mv:Bool}{sym sd tl an fl fn n:Nat}{jy js:Hs}{hp stk trl s_n sto stod:Nat}{jf:Hs}{ft8:Tok}{inp outp files alia actn pst f_n flo flod:Nat}{nxt:Int}{jm:Hs}{mcode xl grd rts bgs dbs m_n mad mmd:Nat}{jd:Hs}{oprs flgs d_n dbd c he xe:Nat}{iv:Int}{hv' xv:Array Value}{t1 t2 tp:Tok}{sn pj cj ce pe idx:Nat}{oin ops oac:Obj}{kin kps kac:List (Int×Value)}{past:Bool}{act:Str}{cv:List Value}{codes:List Int}{ti tn ta:Tok}{TX:List Str}{FN:List (Int×Int)}{S news rest:List (Addr×Obj)}:Prop:=∀ (B:Below A₀ base outer h₀)(F:Fr h₀ L s.heap m)(X:(K w.params).In h₀)(T:Top p loose mean mg mb h₀)(hk:cs.kind = .function)(N:News h₀ L s.heap news)(P:Tk ((pj,W.listOf [.ref cj,.int idx ti].toArray pe)::(pst,ops)::S) news rest)(hS:Zh w tl an fl fn TX FN S)(D:Za news)(hm1:(sym,instObj 154 sd)∈rest)(hm2:(sd,Zq jy tl an fl fn n)∈rest)(ms1:(sto,instObj 430 stod)∈rest)(ms2:(stod,Zy js sym hp stk trl s_n)∈rest)(mm1:(mad,instObj 1104 mmd)∈rest)(mm2:(mmd,ZB jm sym mcode sto xl grd rts bgs dbs m_n)∈rest)(md1:(dbs,instObj 1083 dbd)∈rest)(md2:(dbd,Z8 jd flo oprs flgs d_n)∈rest)(mf1:(flo,instObj 541 flod)∈rest)(mf2:(flod,ZL jf inp outp files alia actn pst nxt ft8 f_n)∈rest)(mc':(c,Zk 5 iv t1 t2)∈rest)(mh:(hp,W.listOf hv' he)∈rest)(hsz:Zl hv')(mx:(xl,W.listOf xv xe)∈rest)(hx:xv[1]? = some (.ref c))(mi:(inp,oin)∈rest)(hi:oin.IsDictOf (intKind PR w) kin)(hv:valueAt kin (sn:Int)=some (.ref pj))(mc:(cj,W.listOf cv.toArray ce)∈rest)(hc:IntsAre cv codes)(hlen:codes.length<50)(hidx:idx<1000)(hnn:∀ c∈codes,0≤c)(hps:ops.IsDictOf (intKind PR w) kps)(hpb:(valueAt kps (sn:Int)).isSome=past)(lop:(pst==sysModules)=false)(hpz:kps.length<1000)(mac:(actn,oac)∈rest)(hac:oac.IsDictOf (intKind PR w) kac)(hva:valueAt kac (sn:Int)=some (.str act ta))(loa:(actn==sysModules)=false)(hb:TX.length<20000)(hb':FN.length<20000)(hdp:dp+100<recursionLimit)(hun:un+700<cLine)(exc:∀ (e d bv:Nat)(hsh:Int)(tk ti':Tok)(pe' idx':Nat)(past':Bool)(kps':List (Int×Value))(ops':Obj)(TX':List Str)(FN':List (Int×Int))(S' TT':List (Addr×Obj))(dd:W.Dat)(g' h':Heap)(tk':Nat),Wx TX' FN' true mv sn past codes idx act (.i iv) dd idx' past'→Zr w sn kps kps' ops' past'→Zh w tl an fl fn TX' FN' S'→Fr h₀ L g' m →
      RaisedD base g' (envX cn cs L a ccd cl::outer) e (.ref 51) d ((d,dictOf [⟨hsh,.str ball tk,.ref bv⟩] 1)::(pj,W.listOf [.ref cj,.int idx' ti'].toArray pe')::(pst,ops')::(S'++(TT'++rest))) h'→g'.UpToSlots h'→Za ((d,dictOf [⟨hsh,.str ball tk,.ref bv⟩] 1)::(pj,W.listOf [.ref cj,.int idx' ti'].toArray pe')::(pst,ops')::(S'++(TT'++rest))) →
      W.DatIn TT' (.ref bv) dd→TX<+:TX'→TX'.length≤TX.length+6→FN<+:FN'→FN'.length≤FN.length+3→E (.ref e) {s with heap:=h',toks:=tk'}),
   wpAny (model PR w) (ktrTop dp un gd cn cs L a ccd cl outer) (call (.ref 587) [.ref mad,.int sn tn,.int 1 tp,.bool mv]) Q E s
noncomputable def Yj (c:Zf):Prop:=@cF _ (@Ji) c (c.z 0) (c.a 4) (c.a 5) (c.a 6) (c.a 7) (c.a 8) (c.a 9) (c.a 10) (c.vj 0) (c.vj 1) (c.a 11) (c.a 12) (c.a 13) (c.a 14) (c.a 15) (c.a 16) (c.vj 2) (c.o 0) (c.a 17) (c.a 18) (c.a 19) (c.a 20) (c.a 21) (c.a 22) (c.a 23) (c.a 24) (c.a 25) (c.m 0) (c.vj 3) (c.a 26) (c.a 27) (c.a 28) (c.a 29) (c.a 30) (c.a 31) (c.a 32) (c.a 33) (c.a 34) (c.vj 4) (c.a 35) (c.a 36) (c.a 37) (c.a 38) (c.a 39) (c.a 40) (c.a 41) (c.m 1) (c.vc 0) (c.vc 1) (c.o 1) (c.o 2) (c.o 3) (c.a 42) (c.a 43) (c.a 44) (c.a 45) (c.a 46) (c.a 47) (c.v 0) (c.v 1) (c.v 2) (c.y 0) (c.y 1) (c.y 2) (c.z 1) (c.n 1) (c.u 0) (c.w 0) (c.o 4) (c.o 5) (c.o 6) (c.h 1) (c.t 0) (c.b 0) (c.b 1) (c.b 2)
omit B F X T hk in
noncomputable def Je {mv:Bool}{sym sd tl an fl fn n:Nat}{jy js:Hs}{hp stk trl s_n sto stod:Nat}{jf:Hs}{ft8:Tok}{inp outp files alia actn pst f_n flo flod:Nat}{nxt:Int}{jm:Hs}{mcode xl grd rts bgs dbs m_n mad mmd:Nat}{jd:Hs}{oprs flgs d_n dbd c he xe i:Nat}{x:Str}{hv' xv:Array Value}{t1 t2 tp:Tok}{sn pj cj ce pe idx:Nat}{oin ops oac:Obj}{kin kps kac:List (Int×Value)}{past:Bool}{act:Str}{cv:List Value}{codes:List Int}{ti tn ta:Tok}{TX:List Str}{FN:List (Int×Int)}{S news rest:List (Addr×Obj)}:Prop:=∀ (B:Below A₀ base outer h₀)(F:Fr h₀ L s.heap m)(X:(K w.params).In h₀)(T:Top p loose mean mg mb h₀)(hk:cs.kind = .function)(N:News h₀ L s.heap news)(P:Tk ((pj,W.listOf [.ref cj,.int idx ti].toArray pe)::(pst,ops)::S) news rest)(hS:Zh w tl an fl fn TX FN S)(D:Za news)(hm1:(sym,instObj 154 sd)∈rest)(hm2:(sd,Zq jy tl an fl fn n)∈rest)(ms1:(sto,instObj 430 stod)∈rest)(ms2:(stod,Zy js sym hp stk trl s_n)∈rest)(mm1:(mad,instObj 1104 mmd)∈rest)(mm2:(mmd,ZB jm sym mcode sto xl grd rts bgs dbs m_n)∈rest)(md1:(dbs,instObj 1083 dbd)∈rest)(md2:(dbd,Z8 jd flo oprs flgs d_n)∈rest)(mf1:(flo,instObj 541 flod)∈rest)(mf2:(flod,ZL jf inp outp files alia actn pst nxt ft8 f_n)∈rest)(mc':(c,Zk 4 i t1 t2)∈rest)(mh:(hp,W.listOf hv' he)∈rest)(hit:TX[i]? = some x)(hsz:Zl hv')(mx:(xl,W.listOf xv xe)∈rest)(hx:xv[1]? = some (.ref c))(mi:(inp,oin)∈rest)(hi:oin.IsDictOf (intKind PR w) kin)(hv:valueAt kin (sn:Int)=some (.ref pj))(mc:(cj,W.listOf cv.toArray ce)∈rest)(hc:IntsAre cv codes)(hlen:codes.length<50)(hidx:idx<1000)(hnn:∀ c∈codes,0≤c)(hps:ops.IsDictOf (intKind PR w) kps)(hpb:(valueAt kps (sn:Int)).isSome=past)(lop:(pst==sysModules)=false)(hpz:kps.length<1000)(mac:(actn,oac)∈rest)(hac:oac.IsDictOf (intKind PR w) kac)(hva:valueAt kac (sn:Int)=some (.str act ta))(loa:(actn==sysModules)=false)(hb:TX.length<20000)(hb':FN.length<20000)(hdp:dp+100<recursionLimit)(hun:un+700<cLine)(exc:∀ (e d bv:Nat)(hsh:Int)(tk ti':Tok)(pe' idx':Nat)(past':Bool)(kps':List (Int×Value))(ops':Obj)(TX':List Str)(FN':List (Int×Int))(S' TT':List (Addr×Obj))(dd:W.Dat)(g' h':Heap)(tk':Nat),Wx TX' FN' false mv sn past codes idx act (.a i x) dd idx' past'→Zr w sn kps kps' ops' past'→Zh w tl an fl fn TX' FN' S'→Fr h₀ L g' m →
      RaisedD base g' (envX cn cs L a ccd cl::outer) e (.ref 51) d ((d,dictOf [⟨hsh,.str ball tk,.ref bv⟩] 1)::(pj,W.listOf [.ref cj,.int idx' ti'].toArray pe')::(pst,ops')::(S'++(TT'++rest))) h'→g'.UpToSlots h'→Za ((d,dictOf [⟨hsh,.str ball tk,.ref bv⟩] 1)::(pj,W.listOf [.ref cj,.int idx' ti'].toArray pe')::(pst,ops')::(S'++(TT'++rest))) →
      W.DatIn TT' (.ref bv) dd→TX<+:TX'→TX'.length≤TX.length+6→FN<+:FN'→FN'.length≤FN.length+3→E (.ref e) {s with heap:=h',toks:=tk'}),
   wpAny (model PR w) (ktrTop dp un gd cn cs L a ccd cl outer) (call (.ref 594) [.ref mad,.int sn tn,.int 1 tp,.bool mv]) Q E s
noncomputable def Yg (c:Zf):Prop:=@cF _ (@Je) c (c.z 0) (c.a 4) (c.a 5) (c.a 6) (c.a 7) (c.a 8) (c.a 9) (c.a 10) (c.vj 0) (c.vj 1) (c.a 11) (c.a 12) (c.a 13) (c.a 14) (c.a 15) (c.a 16) (c.vj 2) (c.o 0) (c.a 17) (c.a 18) (c.a 19) (c.a 20) (c.a 21) (c.a 22) (c.a 23) (c.a 24) (c.a 25) (c.m 0) (c.vj 3) (c.a 26) (c.a 27) (c.a 28) (c.a 29) (c.a 30) (c.a 31) (c.a 32) (c.a 33) (c.a 34) (c.vj 4) (c.a 35) (c.a 36) (c.a 37) (c.a 38) (c.a 39) (c.a 40) (c.a 41) (c.a 42) (c.n 1) (c.vc 0) (c.vc 1) (c.o 1) (c.o 2) (c.o 3) (c.a 43) (c.a 44) (c.a 45) (c.a 46) (c.a 47) (c.a 48) (c.v 0) (c.v 1) (c.v 2) (c.y 0) (c.y 1) (c.y 2) (c.z 1) (c.n 2) (c.u 0) (c.w 0) (c.o 4) (c.o 5) (c.o 6) (c.h 1) (c.t 0) (c.b 0) (c.b 1) (c.b 2)
omit B F X T hk in
noncomputable def Jd {mv:Bool}{sym sd tl an fl fn n:Nat}{jy js:Hs}{hp stk trl s_n sto stod:Nat}{jf:Hs}{ft8:Tok}{inp outp files alia actn pst f_n flo flod:Nat}{nxt:Int}{jm:Hs}{mcode xl grd rts bgs dbs m_n mad mmd:Nat}{jd:Hs}{oprs flgs d_n dbd c he xe:Nat}{iv:Int}{hv' xv:Array Value}{t1 t2 tp:Tok}{sn pj cj ce pe idx:Nat}{oin ops oac:Obj}{kin kps kac:List (Int×Value)}{past:Bool}{act:Str}{cv:List Value}{codes:List Int}{ti tn ta:Tok}{TX:List Str}{FN:List (Int×Int)}{S news rest:List (Addr×Obj)}:Prop:=∀ (B:Below A₀ base outer h₀)(F:Fr h₀ L s.heap m)(X:(K w.params).In h₀)(T:Top p loose mean mg mb h₀)(hk:cs.kind = .function)(N:News h₀ L s.heap news)(P:Tk ((pj,W.listOf [.ref cj,.int idx ti].toArray pe)::(pst,ops)::S) news rest)(hS:Zh w tl an fl fn TX FN S)(D:Za news)(hm1:(sym,instObj 154 sd)∈rest)(hm2:(sd,Zq jy tl an fl fn n)∈rest)(ms1:(sto,instObj 430 stod)∈rest)(ms2:(stod,Zy js sym hp stk trl s_n)∈rest)(mm1:(mad,instObj 1104 mmd)∈rest)(mm2:(mmd,ZB jm sym mcode sto xl grd rts bgs dbs m_n)∈rest)(md1:(dbs,instObj 1083 dbd)∈rest)(md2:(dbd,Z8 jd flo oprs flgs d_n)∈rest)(mf1:(flo,instObj 541 flod)∈rest)(mf2:(flod,ZL jf inp outp files alia actn pst nxt ft8 f_n)∈rest)(mc':(c,Zk 5 iv t1 t2)∈rest)(mh:(hp,W.listOf hv' he)∈rest)(hsz:Zl hv')(mx:(xl,W.listOf xv xe)∈rest)(hx:xv[1]? = some (.ref c))(mi:(inp,oin)∈rest)(hi:oin.IsDictOf (intKind PR w) kin)(hv:valueAt kin (sn:Int)=some (.ref pj))(mc:(cj,W.listOf cv.toArray ce)∈rest)(hc:IntsAre cv codes)(hlen:codes.length<50)(hidx:idx<1000)(hnn:∀ c∈codes,0≤c)(hps:ops.IsDictOf (intKind PR w) kps)(hpb:(valueAt kps (sn:Int)).isSome=past)(lop:(pst==sysModules)=false)(hpz:kps.length<1000)(mac:(actn,oac)∈rest)(hac:oac.IsDictOf (intKind PR w) kac)(hva:valueAt kac (sn:Int)=some (.str act ta))(loa:(actn==sysModules)=false)(hb:TX.length<20000)(hb':FN.length<20000)(hdp:dp+100<recursionLimit)(hun:un+700<cLine)(ret:∀ (b:Bool)(v:Int)(ti':Tok)(pe':Nat)(kps':List (Int×Value))(ops':Obj)(TX':List Str)(S':List (Addr×Obj))(h':Heap)(tk':Nat),ZF false (.i iv)→Y4 past codes idx act→Uk TX' false codes idx 5 v→b=decide ((5:Int)=5∧(iv:Int)=v)→Zr w sn kps kps' ops' (Zs mv past codes.length idx)→Zh w tl an fl fn TX' FN S'→TX<+:TX'→TX'.length≤TX.length+1→Fr h₀ L h' m →
      News h₀ L h' ((pj,W.listOf [.ref cj,.int (Zt mv codes.length idx) ti'].toArray pe')::(pst,ops')::(S'++rest))→Za ((pj,W.listOf [.ref cj,.int (Zt mv codes.length idx) ti'].toArray pe')::(pst,ops')::(S'++rest))→Q (.bool b) {s with heap:=h',toks:=tk'}) (exc:∀ (e d bv:Nat) (hsh:Int) (tk ti':Tok) (pe' idx':Nat) (past':Bool) (kps':List (Int×Value)) (ops':Obj) (TX':List Str) (FN':List (Int×Int)) (S' TT':List (Addr×Obj)) (dd:W.Dat) (g' h':Heap) (tk':Nat),Wx TX' FN' false mv sn past codes idx act (.i iv) dd idx' past'→Zr w sn kps kps' ops' past'→Zh w tl an fl fn TX' FN' S'→Fr h₀ L g' m →
      RaisedD base g' (envX cn cs L a ccd cl::outer) e (.ref 51) d ((d,dictOf [⟨hsh,.str ball tk,.ref bv⟩] 1)::(pj,W.listOf [.ref cj,.int idx' ti'].toArray pe')::(pst,ops')::(S'++(TT'++rest))) h'→g'.UpToSlots h'→Za ((d,dictOf [⟨hsh,.str ball tk,.ref bv⟩] 1)::(pj,W.listOf [.ref cj,.int idx' ti'].toArray pe')::(pst,ops')::(S'++(TT'++rest))) →
      W.DatIn TT' (.ref bv) dd→TX<+:TX'→TX'.length≤TX.length+6→FN<+:FN'→FN'.length≤FN.length+3→E (.ref e) {s with heap:=h',toks:=tk'}),
   wpAny (model PR w) (ktrTop dp un gd cn cs L a ccd cl outer) (call (.ref 594) [.ref mad,.int sn tn,.int 1 tp,.bool mv]) Q E s
noncomputable def Ye (c:Zf):Prop:=@cF _ (@Jd) c (c.z 0) (c.a 4) (c.a 5) (c.a 6) (c.a 7) (c.a 8) (c.a 9) (c.a 10) (c.vj 0) (c.vj 1) (c.a 11) (c.a 12) (c.a 13) (c.a 14) (c.a 15) (c.a 16) (c.vj 2) (c.o 0) (c.a 17) (c.a 18) (c.a 19) (c.a 20) (c.a 21) (c.a 22) (c.a 23) (c.a 24) (c.a 25) (c.m 0) (c.vj 3) (c.a 26) (c.a 27) (c.a 28) (c.a 29) (c.a 30) (c.a 31) (c.a 32) (c.a 33) (c.a 34) (c.vj 4) (c.a 35) (c.a 36) (c.a 37) (c.a 38) (c.a 39) (c.a 40) (c.a 41) (c.m 1) (c.vc 0) (c.vc 1) (c.o 1) (c.o 2) (c.o 3) (c.a 42) (c.a 43) (c.a 44) (c.a 45) (c.a 46) (c.a 47) (c.v 0) (c.v 1) (c.v 2) (c.y 0) (c.y 1) (c.y 2) (c.z 1) (c.n 1) (c.u 0) (c.w 0) (c.o 4) (c.o 5) (c.o 6) (c.h 1) (c.t 0) (c.b 0) (c.b 1) (c.b 2)
noncomputable def ZV:Zf:=ZM Zj fun c=>Yk c∧Yj c∧Yg c∧Ye c
omit B F X T hk in
theorem Zac:Yk ZV:=by
  delta Yk cF
  k_extra "gS"
  exists Zf.h _ _,TX
  exists Zf.a _ _,sym,sd,tl,an,fl,fn,n,hp,stk,trl,s_n,sto,stod,inp,outp,files,alia,actn,pst,f_n,flo,flod,mcode,xl,grd,rts,bgs,dbs,m_n,mad,mmd,oprs,flgs,d_n,dbd,c,he,xe,i,sn,pj,cj,ce,pe,idx
  exists Zf.n _ _,x,act
  exists Zf.z _ _,mv,past
  exists Zf.vj _ _,jy,js,jf,jm,jd
  exists Zf.o _ _,ft8,t1,t2,tp,ti,tn,ta
  exists Zf.m _ _,nxt
  exists Zf.vc _ _,hv',xv
  exists Zf.v _ _,oin,ops,oac
  exists Zf.y _ _,kin,kps,kac
  exists Zf.u _ _,cv
  exists Zf.w _ _,codes
  exists Zf.t _ _,FN
  exists Zf.b _ _,S,news,rest
  intro B F X T hk N P hS D hm1 hm2 ms1 ms2 mm1 mm2 md1 md2 mf1 mf2 mc' mh hit hxl hsz mx hx mi hi hv mc hc hlen hidx hnn hps hpb lop hpz mac hac hva loa hb hb' hdp hun ret exc
  delta Zq Zy ZL ZB Z8 at *
  have N₁:News h₀ L s.heap ((pj,W.listOf [.ref cj,.int idx ti].toArray pe)::(pst,ops)::(S++rest)):=Ze N P.perm
  have D₁:Za ((pj,W.listOf [.ref cj,.int idx ti].toArray pe)::(pst,ops)::(S++rest)):=D.perm P.perm
  clear N D P
  refine wpAny_call ?_
  k_dflt cell_enter
  k_steps
  · rename i=24∨x.length=1=>hG
    rename News _ _ _ _=>nN
    have nD:=Zd nN (by ktr_unf)
    exact ret _ _ _ _ _ _ _ _ _ _ hG (by assumption) (Zap (by assumption) (by assumption)) (by assumption) (by assumption) hS (List.prefix_refl _) (by tb_start) (by k_asm) (Zc nN (by ktr_rel)) (Zb nD (by ktr_rel))
  · rename i=24∨x.length=1=>hG
    rename News _ _ _ _=>nN
    have nD:=Zd nN (by ktr_unf)
    exact ret _ _ _ _ _ _ _ _ _ _ hG (by assumption) (Zb2 (by assumption) (by assumption) (by assumption)) (by assumption) (by assumption) (by assumption) (by assumption) (by tb_start) (by k_asm) (Zc nN (by ktr_rel)) (Zb nD (by ktr_rel))
  · rename i=24∨x.length=1=>hG
    rename RaisedD _ _ _ _ _ _ _ _=>nR
    rename Za _=>nD
    exact exc _ _ _ _ _ _ _ _ _ _ _ _ _ _ _ _ _ _ _ (.inr ⟨hG,by assumption,rfl,rfl⟩) (by assumption) (by assumption) (by k_asm) (Zi nR (by ktr_rel)) (by assumption) (Zb nD (by ktr_rel)) (by assumption) (by assumption) (by tb_start) (by assumption) (by tb_start)
  · rename RaisedD _ _ _ _ _ _ _ _=>nR
    rename Za _=>nD
    exact exc _ _ _ _ _ _ _ _ _ _ _ _ _ _ _ _ _ _ _ (.inl ⟨⟨by assumption,by assumption⟩,rfl,rfl⟩) (Zn hps hpb) (by assumption) (by k_asm) (Zi nR (by ktr_rel)) (by assumption) (Zb nD (by ktr_rel)) (by assumption) (by assumption) (by tb_start) (by assumption) (by tb_start)
omit B F X T hk in
theorem Zab:Yj ZV:=by
  delta Yj cF
  k_extra "gS"
  exists Zf.h _ _,TX
  exists Zf.a _ _,sym,sd,tl,an,fl,fn,n,hp,stk,trl,s_n,sto,stod,inp,outp,files,alia,actn,pst,f_n,flo,flod,mcode,xl,grd,rts,bgs,dbs,m_n,mad,mmd,oprs,flgs,d_n,dbd,c,he,xe,sn,pj,cj,ce,pe,idx
  exists Zf.n _ _,act
  exists Zf.z _ _,mv,past
  exists Zf.vj _ _,jy,js,jf,jm,jd
  exists Zf.o _ _,ft8,t1,t2,tp,ti,tn,ta
  exists Zf.m _ _,nxt,iv
  exists Zf.vc _ _,hv',xv
  exists Zf.v _ _,oin,ops,oac
  exists Zf.y _ _,kin,kps,kac
  exists Zf.u _ _,cv
  exists Zf.w _ _,codes
  exists Zf.t _ _,FN
  exists Zf.b _ _,S,news,rest
  intro B F X T hk N P hS D hm1 hm2 ms1 ms2 mm1 mm2 md1 md2 mf1 mf2 mc' mh hsz mx hx mi hi hv mc hc hlen hidx hnn hps hpb lop hpz mac hac hva loa hb hb' hdp hun exc
  delta Zq Zy ZL ZB Z8 at *
  have N₁:News h₀ L s.heap ((pj,W.listOf [.ref cj,.int idx ti].toArray pe)::(pst,ops)::(S++rest)):=Ze N P.perm
  have D₁:Za ((pj,W.listOf [.ref cj,.int idx ti].toArray pe)::(pst,ops)::(S++rest)):=D.perm P.perm
  clear N D P
  refine wpAny_call ?_
  k_dflt cell_enter
  k_steps
  rename RaisedD _ _ _ _ _ _ _ _=>nR
  rename Za _=>nD
  exact exc _ _ _ _ _ _ _ _ _ _ _ _ _ _ _ _ _ _ _ (.inl ⟨(by assumption),rfl,rfl⟩) (Zn hps hpb) (by assumption) (by k_asm) (Zi nR (by ktr_rel)) (by assumption) (Zb nD (by ktr_rel)) (by assumption) (by assumption) (by tb_start) (by assumption) (by tb_start)
omit B F X T hk in
theorem W7:Yg ZV:=by
  delta Yg cF
  k_extra "gS"
  exists Zf.h _ _,TX
  exists Zf.a _ _,sym,sd,tl,an,fl,fn,n,hp,stk,trl,s_n,sto,stod,inp,outp,files,alia,actn,pst,f_n,flo,flod,mcode,xl,grd,rts,bgs,dbs,m_n,mad,mmd,oprs,flgs,d_n,dbd,c,he,xe,i,sn,pj,cj,ce,pe,idx
  exists Zf.n _ _,x,act
  exists Zf.z _ _,mv,past
  exists Zf.vj _ _,jy,js,jf,jm,jd
  exists Zf.o _ _,ft8,t1,t2,tp,ti,tn,ta
  exists Zf.m _ _,nxt
  exists Zf.vc _ _,hv',xv
  exists Zf.v _ _,oin,ops,oac
  exists Zf.y _ _,kin,kps,kac
  exists Zf.u _ _,cv
  exists Zf.w _ _,codes
  exists Zf.t _ _,FN
  exists Zf.b _ _,S,news,rest
  intro B F X T hk N P hS D hm1 hm2 ms1 ms2 mm1 mm2 md1 md2 mf1 mf2 mc' mh hit hsz mx hx mi hi hv mc hc hlen hidx hnn hps hpb lop hpz mac hac hva loa hb hb' hdp hun exc
  delta Zq Zy ZL ZB Z8 at *
  have N₁:News h₀ L s.heap ((pj,W.listOf [.ref cj,.int idx ti].toArray pe)::(pst,ops)::(S++rest)):=Ze N P.perm
  have D₁:Za ((pj,W.listOf [.ref cj,.int idx ti].toArray pe)::(pst,ops)::(S++rest)):=D.perm P.perm
  clear N D P
  refine wpAny_call ?_
  k_dflt cell_enter
  k_steps
  rename RaisedD _ _ _ _ _ _ _ _=>nR
  rename Za _=>nD
  exact exc _ _ _ _ _ _ _ _ _ _ _ _ _ _ _ _ _ _ _ (.inl ⟨(by assumption),rfl,rfl⟩) (Zn hps hpb) (by assumption) (by k_asm) (Zi nR (by ktr_rel)) (by assumption) (Zb nD (by ktr_rel)) (by assumption) (by assumption) (by tb_start) (by assumption) (by tb_start)
omit B F X T hk in
theorem W6:Ye ZV:=by
  delta Ye cF
  k_extra "gS"
  exists Zf.h _ _,TX
  exists Zf.a _ _,sym,sd,tl,an,fl,fn,n,hp,stk,trl,s_n,sto,stod,inp,outp,files,alia,actn,pst,f_n,flo,flod,mcode,xl,grd,rts,bgs,dbs,m_n,mad,mmd,oprs,flgs,d_n,dbd,c,he,xe,sn,pj,cj,ce,pe,idx
  exists Zf.n _ _,act
  exists Zf.z _ _,mv,past
  exists Zf.vj _ _,jy,js,jf,jm,jd
  exists Zf.o _ _,ft8,t1,t2,tp,ti,tn,ta
  exists Zf.m _ _,nxt,iv
  exists Zf.vc _ _,hv',xv
  exists Zf.v _ _,oin,ops,oac
  exists Zf.y _ _,kin,kps,kac
  exists Zf.u _ _,cv
  exists Zf.w _ _,codes
  exists Zf.t _ _,FN
  exists Zf.b _ _,S,news,rest
  intro B F X T hk N P hS D hm1 hm2 ms1 ms2 mm1 mm2 md1 md2 mf1 mf2 mc' mh hsz mx hx mi hi hv mc hc hlen hidx hnn hps hpb lop hpz mac hac hva loa hb hb' hdp hun ret exc
  delta Zq Zy ZL ZB Z8 at *
  have N₁:News h₀ L s.heap ((pj,W.listOf [.ref cj,.int idx ti].toArray pe)::(pst,ops)::(S++rest)):=Ze N P.perm
  have D₁:Za ((pj,W.listOf [.ref cj,.int idx ti].toArray pe)::(pst,ops)::(S++rest)):=D.perm P.perm
  clear N D P
  refine wpAny_call ?_
  k_dflt cell_enter
  k_steps
  · rename ¬ (iv < -1∨1114111<iv)=>hG
    rename News _ _ _ _=>nN
    have nD:=Zd nN (by ktr_unf)
    exact ret _ _ _ _ _ _ _ _ _ _ hG (by assumption) GM (by assumption) (by assumption) hS (List.prefix_refl _) (by tb_start) (by k_asm) (Zc nN (by ktr_rel)) (Zb nD (by ktr_rel))
  · rename ¬ (iv < -1∨1114111<iv)=>hG
    rename RaisedD _ _ _ _ _ _ _ _=>nR
    rename Za _=>nD
    exact exc _ _ _ _ _ _ _ _ _ _ _ _ _ _ _ _ _ _ _ (.inr ⟨hG,by assumption,rfl,rfl⟩) (by assumption) (by assumption) (by k_asm) (Zi nR (by ktr_rel)) (by assumption) (Zb nD (by ktr_rel)) (by assumption) (by assumption) (by tb_start) (by assumption) (by tb_start)
  · rename RaisedD _ _ _ _ _ _ _ _=>nR
    rename Za _=>nD
    exact exc _ _ _ _ _ _ _ _ _ _ _ _ _ _ _ _ _ _ _ (.inl ⟨⟨by assumption,by assumption⟩,rfl,rfl⟩) (Zn hps hpb) (by assumption) (by k_asm) (Zi nR (by ktr_rel)) (by assumption) (Zb nD (by ktr_rel)) (by assumption) (by assumption) (by tb_start) (by assumption) (by tb_start)
omit B F X T hk in
theorem ZP:∀ c:Zf,Yk c∧Yj c∧Yg c∧Ye c:=ZN (k:=ZV) rfl ⟨Zac,Zab,W7,W6⟩
omit B F X T hk in
theorem Wq {mv sym sd tl an fl fn n jy js hp stk trl s_n sto stod jf ft8 inp outp files alia actn pst f_n flo flod nxt jm mcode xl grd rts bgs dbs m_n mad mmd jd oprs flgs d_n dbd c he xe i x hv' xv t1 t2 tp sn pj cj ce pe idx oin ops oac kin kps kac past act cv codes ti tn ta TX FN S news rest}:@Jj w p loose mean mg mb dp un gd cn cs a ccd cl outer A₀ base h₀ L m s Q E mv sym sd tl an fl fn n jy js hp stk trl s_n sto stod jf ft8 inp outp files alia actn pst f_n flo flod nxt jm mcode xl grd rts bgs dbs m_n mad mmd jd oprs flgs d_n dbd c he xe i x hv' xv t1 t2 tp sn pj cj ce pe idx oin ops oac kin kps kac past act cv codes ti tn ta TX FN S news rest:=(ZP (cS w p loose mean mg mb m gd cn cs ccd cl outer A₀ base h₀ s Q E |>.sh (gt dC.h [loose,TX]) |>.sa (gt dC.a [dp,un,a,L,sym,sd,tl,an,fl,fn,n,hp,stk,trl,s_n,sto,stod,inp,outp,files,alia,actn,pst,f_n,flo,flod,mcode,xl,grd,rts,bgs,dbs,m_n,mad,mmd,oprs,flgs,d_n,dbd,c,he,xe,i,sn,pj,cj,ce,pe,idx]) |>.sn (gt dC.n [cn,x,act]) |>.sz (gt dC.z [mv,past]) |>.svj (gt dC.vj [jy,js,jf,jm,jd]) |>.so (gt dC.o [ft8,t1,t2,tp,ti,tn,ta]) |>.sm (gt dC.m [nxt]) |>.svc (gt dC.vc [hv',xv]) |>.sv (gt dC.v [oin,ops,oac]) |>.sy (gt dC.y [kin,kps,kac]) |>.su (gt dC.u [cv]) |>.sw (gt dC.w [codes]) |>.st (gt dC.t [FN]) |>.sb (gt dC.b [S,news,rest]))).1
omit B F X T hk in
theorem Wp {mv sym sd tl an fl fn n jy js hp stk trl s_n sto stod jf ft8 inp outp files alia actn pst f_n flo flod nxt jm mcode xl grd rts bgs dbs m_n mad mmd jd oprs flgs d_n dbd c he xe iv hv' xv t1 t2 tp sn pj cj ce pe idx oin ops oac kin kps kac past act cv codes ti tn ta TX FN S news rest}:@Ji w p loose mean mg mb dp un gd cn cs a ccd cl outer A₀ base h₀ L m s Q E mv sym sd tl an fl fn n jy js hp stk trl s_n sto stod jf ft8 inp outp files alia actn pst f_n flo flod nxt jm mcode xl grd rts bgs dbs m_n mad mmd jd oprs flgs d_n dbd c he xe iv hv' xv t1 t2 tp sn pj cj ce pe idx oin ops oac kin kps kac past act cv codes ti tn ta TX FN S news rest:=(ZP (cS w p loose mean mg mb m gd cn cs ccd cl outer A₀ base h₀ s Q E |>.sh (gt dC.h [loose,TX]) |>.sa (gt dC.a [dp,un,a,L,sym,sd,tl,an,fl,fn,n,hp,stk,trl,s_n,sto,stod,inp,outp,files,alia,actn,pst,f_n,flo,flod,mcode,xl,grd,rts,bgs,dbs,m_n,mad,mmd,oprs,flgs,d_n,dbd,c,he,xe,sn,pj,cj,ce,pe,idx]) |>.sn (gt dC.n [cn,act]) |>.sz (gt dC.z [mv,past]) |>.svj (gt dC.vj [jy,js,jf,jm,jd]) |>.so (gt dC.o [ft8,t1,t2,tp,ti,tn,ta]) |>.sm (gt dC.m [nxt,iv]) |>.svc (gt dC.vc [hv',xv]) |>.sv (gt dC.v [oin,ops,oac]) |>.sy (gt dC.y [kin,kps,kac]) |>.su (gt dC.u [cv]) |>.sw (gt dC.w [codes]) |>.st (gt dC.t [FN]) |>.sb (gt dC.b [S,news,rest]))).2.1
omit B F X T hk in
theorem Wj {mv sym sd tl an fl fn n jy js hp stk trl s_n sto stod jf ft8 inp outp files alia actn pst f_n flo flod nxt jm mcode xl grd rts bgs dbs m_n mad mmd jd oprs flgs d_n dbd c he xe i x hv' xv t1 t2 tp sn pj cj ce pe idx oin ops oac kin kps kac past act cv codes ti tn ta TX FN S news rest}:@Je w p loose mean mg mb dp un gd cn cs a ccd cl outer A₀ base h₀ L m s Q E mv sym sd tl an fl fn n jy js hp stk trl s_n sto stod jf ft8 inp outp files alia actn pst f_n flo flod nxt jm mcode xl grd rts bgs dbs m_n mad mmd jd oprs flgs d_n dbd c he xe i x hv' xv t1 t2 tp sn pj cj ce pe idx oin ops oac kin kps kac past act cv codes ti tn ta TX FN S news rest:=(ZP (cS w p loose mean mg mb m gd cn cs ccd cl outer A₀ base h₀ s Q E |>.sh (gt dC.h [loose,TX]) |>.sa (gt dC.a [dp,un,a,L,sym,sd,tl,an,fl,fn,n,hp,stk,trl,s_n,sto,stod,inp,outp,files,alia,actn,pst,f_n,flo,flod,mcode,xl,grd,rts,bgs,dbs,m_n,mad,mmd,oprs,flgs,d_n,dbd,c,he,xe,i,sn,pj,cj,ce,pe,idx]) |>.sn (gt dC.n [cn,x,act]) |>.sz (gt dC.z [mv,past]) |>.svj (gt dC.vj [jy,js,jf,jm,jd]) |>.so (gt dC.o [ft8,t1,t2,tp,ti,tn,ta]) |>.sm (gt dC.m [nxt]) |>.svc (gt dC.vc [hv',xv]) |>.sv (gt dC.v [oin,ops,oac]) |>.sy (gt dC.y [kin,kps,kac]) |>.su (gt dC.u [cv]) |>.sw (gt dC.w [codes]) |>.st (gt dC.t [FN]) |>.sb (gt dC.b [S,news,rest]))).2.2.1
omit B F X T hk in
theorem Wi {mv sym sd tl an fl fn n jy js hp stk trl s_n sto stod jf ft8 inp outp files alia actn pst f_n flo flod nxt jm mcode xl grd rts bgs dbs m_n mad mmd jd oprs flgs d_n dbd c he xe iv hv' xv t1 t2 tp sn pj cj ce pe idx oin ops oac kin kps kac past act cv codes ti tn ta TX FN S news rest}:@Jd w p loose mean mg mb dp un gd cn cs a ccd cl outer A₀ base h₀ L m s Q E mv sym sd tl an fl fn n jy js hp stk trl s_n sto stod jf ft8 inp outp files alia actn pst f_n flo flod nxt jm mcode xl grd rts bgs dbs m_n mad mmd jd oprs flgs d_n dbd c he xe iv hv' xv t1 t2 tp sn pj cj ce pe idx oin ops oac kin kps kac past act cv codes ti tn ta TX FN S news rest:=(ZP (cS w p loose mean mg mb m gd cn cs ccd cl outer A₀ base h₀ s Q E |>.sh (gt dC.h [loose,TX]) |>.sa (gt dC.a [dp,un,a,L,sym,sd,tl,an,fl,fn,n,hp,stk,trl,s_n,sto,stod,inp,outp,files,alia,actn,pst,f_n,flo,flod,mcode,xl,grd,rts,bgs,dbs,m_n,mad,mmd,oprs,flgs,d_n,dbd,c,he,xe,sn,pj,cj,ce,pe,idx]) |>.sn (gt dC.n [cn,act]) |>.sz (gt dC.z [mv,past]) |>.svj (gt dC.vj [jy,js,jf,jm,jd]) |>.so (gt dC.o [ft8,t1,t2,tp,ti,tn,ta]) |>.sm (gt dC.m [nxt,iv]) |>.svc (gt dC.vc [hv',xv]) |>.sv (gt dC.v [oin,ops,oac]) |>.sy (gt dC.y [kin,kps,kac]) |>.su (gt dC.u [cv]) |>.sw (gt dC.w [codes]) |>.st (gt dC.t [FN]) |>.sb (gt dC.b [S,news,rest]))).2.2.2
end
section
open PySem PySem.W PySem.Calls PySem.Spec PyProof.Rows PyProof.V
set_option autoImplicit false
@[reducible] noncomputable def pA:Arguments:=(⟨_,by conv=>{rhs;whnf}⟩:{l:Arguments // l=sAr (Gf Zc4 0)}).1
@[reducible] noncomputable def pB:List Stmt:=(⟨_,by conv=>{rhs;whnf}⟩:{l:List Stmt // l=sBd (Gf Zc4 0)}).1
@[reducible] noncomputable def pS:Scope:=(⟨_,by conv=>{rhs;whnf}⟩:{l:Scope // l=sSc (Gf Zc4 0)}).1
@[reducible] noncomputable def pQ:Str :=.ofString "_law_read.<locals>.pure"
theorem Zfs (L:Nat):qualnameIn (envOfC (.ofString "_law_read") ZgI L 1156 (aR 1155)) (.ofString "pure") (.ofString "pure")=pQ:=by with_unfolding_all rfl
noncomputable def ZbD (TR:List (Addr×Obj)):Prop:=TR=[(1151,tabObj #[])]
noncomputable def Yn (c':Nat)(TR:List (Addr×Obj)):Prop:=∃ (oc:Obj)(vs:Array Value)(t:Tok),TR=[(1151,tabObj #[rawInt 837,rawInt 4,.ref c']),(c',oc)]∧oc.data = .fields vs∧vs[1]? = some (.str pQ t)
noncomputable def YC (c':Nat)(f:Nat)(deed sn:Int)(R:List (Addr×Obj)):Prop:=∃ (k1 k2:Nat)(doc pm ctv:Value)(o1 o2:Obj)(td ts:Tok),
  R=[(f,fnMade (.ofString "pure") pQ pA pB pS [(.ofString "spot",k2),(.ofString "deed",k1)] doc pm c' ctv),(k2,o2),(k1,o1)]∧o2.data = .cell (some (.int sn ts))∧o1.data = .cell (some (.int deed td))
theorem Jo {a b:Nat}(h:a<b):∀ {l:List (Addr×Obj)},AllLt a l→AllLt b l
  | [],_=>trivial
  | _::_,x=>⟨Nat.lt_trans x.1 h,Jo h x.2⟩
theorem Ue {L:Nat}{o o2:Obj}{l:List (Addr×Obj)}(h:∀ p∈l,p.1<L)(D:Za l):Za ((L+1+1,o)::(L+1,o2)::l) :=
  Za.cons ⟨Nat.lt_succ_self _,allLt_of fun p hp=>Nat.lt_trans (Nat.lt_trans (h p hp) (Nat.lt_succ_self _)) (Nat.lt_succ_self _)⟩ (Za.cons (allLt_of fun p hp=>Nat.lt_trans (h p hp) (Nat.lt_succ_self _)) D)
end
theorem Znu:True:=by
  walk_at "RST"
  walk_at "G slE"
  trivial
section
variable {w:World}{p:Program}{loose:List Str}{mean:ExcName→Option Value}{mg mb:Str→Option Value}
   {dp un:Nat}{gd:Option (List Code)}{cn:Str}{cs:Scope}{a:Addr}{ccd:Value}{cl:List (Str×Addr)}{outer:List Env}{A₀:Around}{base h₀:Heap}{L:Addr}{m:Str→Option Value}{s:Shared}{Q E:Value→Shared→Prop}
   (B:Below A₀ base outer h₀)(F:Fr h₀ L s.heap m)(X:(K w.params).In h₀)(T:Top p loose mean mg mb h₀)(hk:cs.kind = .function)
include B F X T hk
theorem Zgm {deed sn:Int}{td tn:Tok}{news rest:List (Addr×Obj)}
   (N:News h₀ L s.heap news)(D:Za news)(P:Tk [(1151,tabObj #[])] news rest)(C:CodeHd base 1155 1151)
   (hdp:dp+20<recursionLimit)(hun:un+200<cLine)
   (ret:∀ (f c':Nat)(R TR:List (Addr×Obj))(h':Heap)(tk':Nat),YC c' f deed sn R→Yn c' TR→Fr h₀ L h' m→News h₀ L h' (R++(TR++rest))→Za (R++(TR++rest))→Q (.ref f) {s with heap:=h',toks:=tk'}) :
   wpAny (model PR w) (ktrTop dp un gd cn cs L a ccd cl outer) (call (.ref 1156) [.int deed td,.int sn tn]) Q E s:=by
  have N₁:News h₀ L s.heap ((1151,tabObj #[])::rest):=Ze N P.perm
  have D₁:Za ((1151,tabObj #[])::rest):=D.perm P.perm
  clear N D
  refine wpAny_call ?_
  k_dflt (refine' code_defC ?k1 ?k2 ?k3 ?k4 ?k5 ?kA ?kF ?kK ?k6 ?k7 ?k8 ?k9 ?kB ?kD ?_ ?c2 ?c3 ?c4;(case kA=>exact rfl);(case kF=>exact rfl);(case kK=>assumption);(case k1=>k_asm);(case k2=>k_asm);(case k3=>k_asm);(case k4=>k_asm);(case k5=>k_asm);(case k6=>k_is);(case k7=>k_is);(case k8=>ktr_room);(case k9=>exact BindsTo.of_eq rfl);(case kB=>exact rfl);(case kD=>decide +kernel);(case c2=>exact rfl);(case c3=>exact rfl);(case c4=>exact rfl);k_whole)
  intro g' L' h' tk' cells' FG' F' N' Y' B' X' T' l1
  k_cells Y'
  (try simp only [List.cons_append,List.nil_append] at N')
  (try dsimp only);(try k_lift B');(try k_fold)
  have D₂:=Zd N' (Ue l1 D₁)
  k_steps
  rename News h₀ L _ _=>nN
  rename _∧_∧_∧AllLt _ _=>lz
  rename _<_=>lz2
  have nD:=Zd nN (Za.cons ⟨lz2,Jo lz2 lz⟩ (Za.cons lz (D₂.of rfl)))
  rename _=some (Value.str (qualnameIn _ _ _) _)=>hq
  rw [Zfs] at hq nN nD
  exact ret _ _ [_,_,_] [_,_] _ _ ⟨_,_,_,_,_,_,_,_,_,rfl,by assumption,by assumption⟩ ⟨_,_,_,rfl,by assumption,by assumption⟩ (by k_asm) (Zc nN (by ktr_rel)) (Zb nD (by ktr_rel))
theorem Zgl {c':Nat}{oc:Obj}{vs:Array Value}{tq:Tok}{deed sn:Int}{td tn:Tok}{news rest:List (Addr×Obj)}
   (N:News h₀ L s.heap news)(D:Za news)(P:Tk [(1151,tabObj #[rawInt 837,rawInt 4,.ref c']),(c',oc)] news rest)(hoc:oc.data = .fields vs)(hvs:vs[1]? = some (.str pQ tq))(C:CodeHd base 1155 1151)
   (hdp:dp+20<recursionLimit)(hun:un+200<cLine)
   (ret:∀ (f:Nat)(R TR:List (Addr×Obj))(h':Heap)(tk':Nat),YC c' f deed sn R→Yn c' TR→Fr h₀ L h' m→News h₀ L h' (R++(TR++rest))→Za (R++(TR++rest))→Q (.ref f) {s with heap:=h',toks:=tk'}) :
   wpAny (model PR w) (ktrTop dp un gd cn cs L a ccd cl outer) (call (.ref 1156) [.int deed td,.int sn tn]) Q E s:=by
  have N₁:News h₀ L s.heap ((1151,tabObj #[rawInt 837,rawInt 4,.ref c'])::(c',oc)::rest):=Ze N P.perm
  have D₁:Za ((1151,tabObj #[rawInt 837,rawInt 4,.ref c'])::(c',oc)::rest):=D.perm P.perm
  clear N D
  refine wpAny_call ?_
  k_dflt (refine' code_defC ?k1 ?k2 ?k3 ?k4 ?k5 ?kA ?kF ?kK ?k6 ?k7 ?k8 ?k9 ?kB ?kD ?_ ?c2 ?c3 ?c4;(case kA=>exact rfl);(case kF=>exact rfl);(case kK=>assumption);(case k1=>k_asm);(case k2=>k_asm);(case k3=>k_asm);(case k4=>k_asm);(case k5=>k_asm);(case k6=>k_is);(case k7=>k_is);(case k8=>ktr_room);(case k9=>exact BindsTo.of_eq rfl);(case kB=>exact rfl);(case kD=>decide +kernel);(case c2=>exact rfl);(case c3=>exact rfl);(case c4=>exact rfl);k_whole)
  intro g' L' h' tk' cells' FG' F' N' Y' B' X' T' l1
  k_cells Y'
  (try simp only [List.cons_append,List.nil_append] at N')
  (try dsimp only);(try k_lift B');(try k_fold)
  have D₂:=Zd N' (Ue l1 D₁)
  k_steps
  rename News h₀ L _ _=>nN
  have nD:=Zd nN (by ktr_unf)
  rw [Zfs] at nN nD
  exact ret _ [_,_,_] [_,_] _ _ ⟨_,_,_,_,_,_,_,_,_,rfl,by assumption,by assumption⟩ ⟨_,_,_,rfl,by assumption,by assumption⟩ (by k_asm) (Zc nN (by ktr_rel)) (Zb nD (by ktr_rel))
theorem Zb4 {deed sn:Int}{td tn:Tok}{TR news rest:List (Addr×Obj)}
   (N:News h₀ L s.heap news)(D:Za news)(P:Tk TR news rest)(hT:ZbD TR∨∃ c',Yn c' TR)(C:CodeHd base 1155 1151)
   (hdp:dp+20<recursionLimit)(hun:un+200<cLine)
   (ret:∀ (f c':Nat)(R TR:List (Addr×Obj))(h':Heap)(tk':Nat),YC c' f deed sn R→Yn c' TR→Fr h₀ L h' m→News h₀ L h' (R++(TR++rest))→Za (R++(TR++rest))→Q (.ref f) {s with heap:=h',toks:=tk'}) :
   wpAny (model PR w) (ktrTop dp un gd cn cs L a ccd cl outer) (call (.ref 1156) [.int deed td,.int sn tn]) Q E s:=by
  rcases hT with rfl|⟨c',oc,vs,t,rfl,ho,hv⟩
  · exact Zgm B F X T hk N D P C hdp hun ret
  · exact Zgl B F X T hk N D P ho hv C hdp hun fun f R TR h' tk'=>ret f c' R TR h' tk'
end
theorem Znt:True:=by
  walk_at "RST"
  walk_at "G slE"
  trivial
noncomputable def Ui (w:World)(p:Program)(loose:List Str)(mean:ExcName→Option Value)(mg mb:Str→Option Value)(base:Heap)(news:List (Addr×Obj))(G:Value→List (Addr×Obj)→Prop)(GE:Nat→Nat→List (Addr×Obj)→Prop)(fn mad:Nat)(sn:Int)(mv:Bool):Prop :=
  ∀ {dp un:Nat} {gd:Option (List Code)} {cn:Str} {cs:Scope} {a:Addr} {ccd:Value} {cl:List (Str×Addr)} {outer:List Env} {A₀:Around} {h₀:Heap} {L:Addr} {m:Str→Option Value} {s:Shared} {Q E:Value→Shared→Prop} {tn tp:Tok}
   (B:Below A₀ base outer h₀)(F:Fr h₀ L s.heap m)(X:(K w.params).In h₀)(T:Top p loose mean mg mb h₀)(hk:cs.kind = .function)(N:News h₀ L s.heap news)(D:Za news)(hdp:dp+100<recursionLimit)(hun:un+700<cLine)
   (ret:∀ (v:Value)(led:List (Addr×Obj))(h':Heap)(tk':Nat),G v led→Fr h₀ L h' m→News h₀ L h' led→Za led→Q v {s with heap:=h',toks:=tk'})
   (exc:∀ (e d:Nat)(led:List (Addr×Obj))(g' h':Heap)(tk':Nat),GE e d led→Fr h₀ L g' m→RaisedD base g' (envX cn cs L a ccd cl::outer) e (.ref 51) d led h'→g'.UpToSlots h'→Za led→E (.ref e) {s with heap:=h',toks:=tk'}),
   wpAny (model PR w) (ktrTop dp un gd cn cs L a ccd cl outer) (call (.ref fn) [.ref mad,.int sn tn,.int 1 tp,.bool mv]) Q E s
section
variable {w:World}{p:Program}{loose:List Str}{mean:ExcName→Option Value}{mg mb:Str→Option Value}
   {dp un:Nat}{gd:Option (List Code)}{cn:Str}{cs:Scope}{a:Addr}{ccd:Value}{cl:List (Str×Addr)}{outer:List Env}{A₀:Around}{base h₀:Heap}{L:Addr}{m:Str→Option Value}{s:Shared}{Q E:Value→Shared→Prop}
   (B:Below A₀ base outer h₀)(F:Fr h₀ L s.heap m)(X:(K w.params).In h₀)(T:Top p loose mean mg mb h₀)(hk:cs.kind = .function)
include B F X T hk
theorem Zhf:True:=by
  k_with "call ref" =>(k_here;(with_reducible show wpAny _ _ (call (Value.ref 587) _) _ _ _);k_dflt (refine' go (B:=?zB) (F:=?zF) (X:=?zX) (T:=?zT) (hk:=?zhk) (N:=?zN) (D:=?zD) (hdp:=?zhdp) (hun:=?zhun) (ret:=fun v' led' h' tk' hg' F' N' D'=>?_) (exc:=fun e' d' led' g' h' tk' he' F' R' U' D'=>?_);(case zB=>k_asm);(case zF=>k_asm);(case zX=>k_asm);(case zT=>k_asm);(case zhk=>first|exact rfl|assumption);(case zN=>k_asm);(case zD=>ktr_unf);(case zhdp=>ktr_room);(case zhun=>ktr_units));(try dsimp only))
  trivial
theorem WH {f c' mad:Nat}{sn:Int}{R TR news:List (Addr×Obj)}(N:News h₀ L s.heap news)(D:Za news)(C:CodeHd base 1155 1151)(hR:YC c' f 0 sn R)(hTR:Yn c' TR)(hsR:∀ p∈R,p∈news)(hsT:∀ p∈TR,p∈news)
   (hdp:dp+120<recursionLimit)(hun:un+800<cLine)
   (go:Ui w p loose mean mg mb base news (fun v led=>∀ (h':Heap)(tk':Nat),Fr h₀ L h' m→News h₀ L h' led→Za led→Q v {s with heap:=h',toks:=tk'}) (fun e d led=>∀ (g' h':Heap)(tk':Nat),Fr h₀ L g' m→RaisedD base g' (envX cn cs L a ccd cl::outer) e (.ref 51) d led h'→g'.UpToSlots h'→Za led→E (.ref e) {s with heap:=h',toks:=tk'}) 587 mad sn true) :
   wpAny (model PR w) (ktrTop dp un gd cn cs L a ccd cl outer) (call (.ref f) [.ref mad]) Q E s:=by
  obtain ⟨k1',k2',doc',pm',ctv',o1',o2',td',ts',rfl,ho2,ho1⟩:=hR
  obtain ⟨oc',vs',tq',rfl,hoc,hvs⟩:=hTR
  have mf0:=hsR _ (.head _)
  have mf1':=hsR _ (.tail _ (.head _))
  have mf2':=hsR _ (.tail _ (.tail _ (.head _)))
  have mf3':=hsT _ (.tail _ (.head _))
  unfold Ui at go
  refine wpAny_call ?_
  k_dflt (refine' code_nest ?k1 ?k2 ?k3 ?k4 ?k5 ?kA ?kF ?kK ?k6 ?k7 ?k8 ?k9 ?kB ?_ ?c2 ?c3 ?c4 ?c5;(case kA=>exact rfl);(case kF=>exact rfl);(case kK=>assumption);(case k1=>k_asm);(case k2=>k_asm);(case k3=>k_asm);(case k4=>k_asm);(case k5=>k_asm);(case k6=>k_mem);(case k7=>exact codeRec_news (by k_asm) (by k_mem) (by assumption) (by assumption));(case k8=>ktr_room);(case k9=>exact BindsTo.of_eq rfl);(case c5=>decide);(case kB=>exact locs rfl);(case c2=>exact rfl);(case c3=>exact rfl);(case c4=>exact rfl);k_whole)
  intro g' L' h' FG' F' N' B' X' T'
  (try dsimp only);(try k_lift B');(try k_fold)
  k_steps
  · exact hg' _ _ (by k_asm) (by k_asm) (by assumption)
  · exact he' _ _ _ (by k_asm) (by assumption) (by assumption) (by assumption)
theorem Zhe:True:=by
  k_with "call ref" =>(k_here;(with_reducible show wpAny _ _ (call (Value.ref 587) _) _ _ _);k_dflt (refine' go (B:=?zB) (F:=?zF) (X:=?zX) (T:=?zT) (hk:=?zhk) (N:=?zN) (D:=?zD) (hdp:=?zhdp) (hun:=?zhun) (ret:=fun v' led' h' tk' hg' F' N' D'=>?_) (exc:=fun e' d' led' g' h' tk' he' F' R' U' D'=>?_);(case zB=>k_asm);(case zF=>k_asm);(case zX=>k_asm);(case zT=>k_asm);(case zhk=>first|exact rfl|assumption);(case zN=>k_asm);(case zD=>ktr_unf);(case zhdp=>ktr_room);(case zhun=>ktr_units));(try dsimp only))
  trivial
theorem WG {f c' mad:Nat}{sn:Int}{R TR news:List (Addr×Obj)}(N:News h₀ L s.heap news)(D:Za news)(C:CodeHd base 1155 1151)(hR:YC c' f 1 sn R)(hTR:Yn c' TR)(hsR:∀ p∈R,p∈news)(hsT:∀ p∈TR,p∈news)
   (hdp:dp+120<recursionLimit)(hun:un+800<cLine)
   (go:Ui w p loose mean mg mb base news (fun v led=>∀ (h':Heap)(tk':Nat),Fr h₀ L h' m→News h₀ L h' led→Za led→Q v {s with heap:=h',toks:=tk'}) (fun e d led=>∀ (g' h':Heap)(tk':Nat),Fr h₀ L g' m→RaisedD base g' (envX cn cs L a ccd cl::outer) e (.ref 51) d led h'→g'.UpToSlots h'→Za led→E (.ref e) {s with heap:=h',toks:=tk'}) 587 mad sn false) :
   wpAny (model PR w) (ktrTop dp un gd cn cs L a ccd cl outer) (call (.ref f) [.ref mad]) Q E s:=by
  obtain ⟨k1',k2',doc',pm',ctv',o1',o2',td',ts',rfl,ho2,ho1⟩:=hR
  obtain ⟨oc',vs',tq',rfl,hoc,hvs⟩:=hTR
  have mf0:=hsR _ (.head _)
  have mf1':=hsR _ (.tail _ (.head _))
  have mf2':=hsR _ (.tail _ (.tail _ (.head _)))
  have mf3':=hsT _ (.tail _ (.head _))
  unfold Ui at go
  refine wpAny_call ?_
  k_dflt (refine' code_nest ?k1 ?k2 ?k3 ?k4 ?k5 ?kA ?kF ?kK ?k6 ?k7 ?k8 ?k9 ?kB ?_ ?c2 ?c3 ?c4 ?c5;(case kA=>exact rfl);(case kF=>exact rfl);(case kK=>assumption);(case k1=>k_asm);(case k2=>k_asm);(case k3=>k_asm);(case k4=>k_asm);(case k5=>k_asm);(case k6=>k_mem);(case k7=>exact codeRec_news (by k_asm) (by k_mem) (by assumption) (by assumption));(case k8=>ktr_room);(case k9=>exact BindsTo.of_eq rfl);(case c5=>decide);(case kB=>exact locs rfl);(case c2=>exact rfl);(case c3=>exact rfl);(case c4=>exact rfl);k_whole)
  intro g' L' h' FG' F' N' B' X' T'
  (try dsimp only);(try k_lift B');(try k_fold)
  k_steps
  · exact hg' _ _ (by k_asm) (by k_asm) (by assumption)
  · exact he' _ _ _ (by k_asm) (by assumption) (by assumption) (by assumption)
theorem Zhd:True:=by
  k_with "call ref" =>(k_here;(with_reducible show wpAny _ _ (call (Value.ref 594) _) _ _ _);k_dflt (refine' go (B:=?zB) (F:=?zF) (X:=?zX) (T:=?zT) (hk:=?zhk) (N:=?zN) (D:=?zD) (hdp:=?zhdp) (hun:=?zhun) (ret:=fun v' led' h' tk' hg' F' N' D'=>?_) (exc:=fun e' d' led' g' h' tk' he' F' R' U' D'=>?_);(case zB=>k_asm);(case zF=>k_asm);(case zX=>k_asm);(case zT=>k_asm);(case zhk=>first|exact rfl|assumption);(case zN=>k_asm);(case zD=>ktr_unf);(case zhdp=>ktr_room);(case zhun=>ktr_units));(try dsimp only))
  trivial
theorem WF {f c' mad:Nat}{sn:Int}{R TR news:List (Addr×Obj)}(N:News h₀ L s.heap news)(D:Za news)(C:CodeHd base 1155 1151)(hR:YC c' f 2 sn R)(hTR:Yn c' TR)(hsR:∀ p∈R,p∈news)(hsT:∀ p∈TR,p∈news)
   (hdp:dp+120<recursionLimit)(hun:un+800<cLine)
   (go:Ui w p loose mean mg mb base news (fun v led=>∀ (h':Heap)(tk':Nat),Fr h₀ L h' m→News h₀ L h' led→Za led→Q v {s with heap:=h',toks:=tk'}) (fun e d led=>∀ (g' h':Heap)(tk':Nat),Fr h₀ L g' m→RaisedD base g' (envX cn cs L a ccd cl::outer) e (.ref 51) d led h'→g'.UpToSlots h'→Za led→E (.ref e) {s with heap:=h',toks:=tk'}) 594 mad sn true) :
   wpAny (model PR w) (ktrTop dp un gd cn cs L a ccd cl outer) (call (.ref f) [.ref mad]) Q E s:=by
  obtain ⟨k1',k2',doc',pm',ctv',o1',o2',td',ts',rfl,ho2,ho1⟩:=hR
  obtain ⟨oc',vs',tq',rfl,hoc,hvs⟩:=hTR
  have mf0:=hsR _ (.head _)
  have mf1':=hsR _ (.tail _ (.head _))
  have mf2':=hsR _ (.tail _ (.tail _ (.head _)))
  have mf3':=hsT _ (.tail _ (.head _))
  unfold Ui at go
  refine wpAny_call ?_
  k_dflt (refine' code_nest ?k1 ?k2 ?k3 ?k4 ?k5 ?kA ?kF ?kK ?k6 ?k7 ?k8 ?k9 ?kB ?_ ?c2 ?c3 ?c4 ?c5;(case kA=>exact rfl);(case kF=>exact rfl);(case kK=>assumption);(case k1=>k_asm);(case k2=>k_asm);(case k3=>k_asm);(case k4=>k_asm);(case k5=>k_asm);(case k6=>k_mem);(case k7=>exact codeRec_news (by k_asm) (by k_mem) (by assumption) (by assumption));(case k8=>ktr_room);(case k9=>exact BindsTo.of_eq rfl);(case c5=>decide);(case kB=>exact locs rfl);(case c2=>exact rfl);(case c3=>exact rfl);(case c4=>exact rfl);k_whole)
  intro g' L' h' FG' F' N' B' X' T'
  (try dsimp only);(try k_lift B');(try k_fold)
  k_steps
  · exact hg' _ _ (by k_asm) (by k_asm) (by assumption)
  · exact he' _ _ _ (by k_asm) (by assumption) (by assumption) (by assumption)
theorem Zhc:True:=by
  k_with "call ref" =>(k_here;(with_reducible show wpAny _ _ (call (Value.ref 594) _) _ _ _);k_dflt (refine' go (B:=?zB) (F:=?zF) (X:=?zX) (T:=?zT) (hk:=?zhk) (N:=?zN) (D:=?zD) (hdp:=?zhdp) (hun:=?zhun) (ret:=fun v' led' h' tk' hg' F' N' D'=>?_) (exc:=fun e' d' led' g' h' tk' he' F' R' U' D'=>?_);(case zB=>k_asm);(case zF=>k_asm);(case zX=>k_asm);(case zT=>k_asm);(case zhk=>first|exact rfl|assumption);(case zN=>k_asm);(case zD=>ktr_unf);(case zhdp=>ktr_room);(case zhun=>ktr_units));(try dsimp only))
  trivial
theorem WE {f c' mad:Nat}{sn:Int}{R TR news:List (Addr×Obj)}(N:News h₀ L s.heap news)(D:Za news)(C:CodeHd base 1155 1151)(hR:YC c' f 3 sn R)(hTR:Yn c' TR)(hsR:∀ p∈R,p∈news)(hsT:∀ p∈TR,p∈news)
   (hdp:dp+120<recursionLimit)(hun:un+800<cLine)
   (go:Ui w p loose mean mg mb base news (fun v led=>∀ (h':Heap)(tk':Nat),Fr h₀ L h' m→News h₀ L h' led→Za led→Q v {s with heap:=h',toks:=tk'}) (fun e d led=>∀ (g' h':Heap)(tk':Nat),Fr h₀ L g' m→RaisedD base g' (envX cn cs L a ccd cl::outer) e (.ref 51) d led h'→g'.UpToSlots h'→Za led→E (.ref e) {s with heap:=h',toks:=tk'}) 594 mad sn false) :
   wpAny (model PR w) (ktrTop dp un gd cn cs L a ccd cl outer) (call (.ref f) [.ref mad]) Q E s:=by
  obtain ⟨k1',k2',doc',pm',ctv',o1',o2',td',ts',rfl,ho2,ho1⟩:=hR
  obtain ⟨oc',vs',tq',rfl,hoc,hvs⟩:=hTR
  have mf0:=hsR _ (.head _)
  have mf1':=hsR _ (.tail _ (.head _))
  have mf2':=hsR _ (.tail _ (.tail _ (.head _)))
  have mf3':=hsT _ (.tail _ (.head _))
  unfold Ui at go
  refine wpAny_call ?_
  k_dflt (refine' code_nest ?k1 ?k2 ?k3 ?k4 ?k5 ?kA ?kF ?kK ?k6 ?k7 ?k8 ?k9 ?kB ?_ ?c2 ?c3 ?c4 ?c5;(case kA=>exact rfl);(case kF=>exact rfl);(case kK=>assumption);(case k1=>k_asm);(case k2=>k_asm);(case k3=>k_asm);(case k4=>k_asm);(case k5=>k_asm);(case k6=>k_mem);(case k7=>exact codeRec_news (by k_asm) (by k_mem) (by assumption) (by assumption));(case k8=>ktr_room);(case k9=>exact BindsTo.of_eq rfl);(case c5=>decide);(case kB=>exact locs rfl);(case c2=>exact rfl);(case c3=>exact rfl);(case c4=>exact rfl);k_whole)
  intro g' L' h' FG' F' N' B' X' T'
  (try dsimp only);(try k_lift B');(try k_fold)
  k_steps
  · exact hg' _ _ (by k_asm) (by k_asm) (by assumption)
  · exact he' _ _ _ (by k_asm) (by assumption) (by assumption) (by assumption)
end
section
open PySem PySem.W PySem.Calls PySem.Spec PyProof.Rows PyProof.V
set_option autoImplicit false
section
variable {prog:Program}{w:World}{A₀:Around}{E:Value→Shared→Prop}{s':Shared}{base g g₀ G:Heap}{outer:List Env}{L a e d:Addr}{m:Str→Option Value}{name:Str}{scope:Scope}{cd:Value}{cl:List (Str×Addr)}
  {n x:Str} {np:Pos} {b₀:Stmt} {suite:List Stmt} {pos:Pos} {rest:List ExceptHandler} {Q:Flow→Shared→Prop} {news:List (Addr×Obj)}
  {p:Program} {loose:List Str} {mean:ExcName→Option Value} {mg mb:Str→Option Value}
noncomputable def ZaD:Prop:=∀ {np:Pos}{b₀:Stmt}{pos:Pos}{rest:List ExceptHandler}(R:RaisedD base G (envX name scope L a cd cl::outer) e (.ref 51) d news s'.heap)(F:Fr g L G m)(Kb:Below A₀ base outer g)(hsm:G.UpToSlots s'.heap)(XB:(K w.params).In base)(TB:Top p loose mean mg mb base)(hx:nsIn (K w.params) mainGlobals x=some (some (.ref 51)))(he1:exmOne (K w.params) (.ref 51) (.ref 51)=some true)(hkx:(envX name scope L a cd cl).kindOf x=some .globalImplicit)(hdx:(x==("__debug__" :Str))=false)(k:∀ h' g' oe ws tk,Fr g' L h' (fun y=>if y=n then some (.ref e) else m y)→oe.cls = .ref 51→oe.dict=some d→oe.data = .fields ws→News g' L h' ((e,oe)::news) →
      Below A₀ base outer g'→(K w.params).In g'→Top p loose mean mg mb g'→KtsTurn (outer.filterMap (·.frame)) g g' →
      wpAny (model prog w) ((A₀.deeper (envX name scope L a cd cl)).mark (some (.ref e))) (execs (b₀::suite) (envX name scope L a cd cl))
        (fun f s₄=>wpAny (model prog w) (A₀.deeper (envX name scope L a cd cl)) (do bindName (envX name scope L a cd cl) n .none;unbindBehindTheSuite (envX name scope L a cd cl) n pos) (fun _ s₅=>Q f s₅) E s₄)
        (AsSuiteRaised (model prog w) ((A₀.deeper (envX name scope L a cd cl)).mark (some (.ref e))) (envX name scope L a cd cl) n pos (notedBy (model prog w) ((A₀.deeper (envX name scope L a cd cl)).mark (some (.ref e))) (envX name scope L a cd cl) (cameBackBy (model prog w) (A₀.deeper (envX name scope L a cd cl)) (envX name scope L a cd cl) E)))
        {s' with heap:=h',toks:=tk}) (hk:scope.kind = .function) (hlo:(envX name scope L a cd cl).kindOf n=some .local),
   wpAny (model prog w) (A₀.deeper (envX name scope L a cd cl)) (handleBy (.ref e) (envX name scope L a cd cl) (.ExceptHandler (some (.Name x np)) (some n) (b₀::suite) pos::rest)) Q E s'
noncomputable def Gi (c:Zf):Prop:=@ZaD (c.d 0) (c.c 0) (c.e 0) (c.g 0) (c.f 0) (c.j 0) (c.j 1) (c.j 2) (c.q 0) (c.a 0) (c.a 1) (c.a 2) (c.a 3) (c.i 0) (c.n 0) (c.r 0) (c.p 0) (c.s 0) (c.n 1) (c.n 2) (c.ve 0) (c.x 0) (c.b 0) (c.d 1) (c.h 0) (c.k 0) (c.i 1) (c.i 2)
noncomputable def ZaC:Zf:=ZM Zj Gi
theorem ZeV:Gi ZaC:=by
  delta Gi
  exists Zf.d _ _,prog,p
  exists Zf.c _ _,w
  exists Zf.e _ _,A₀
  exists Zf.g _ _,E
  exists Zf.f _ _,s'
  exists Zf.j _ _,base,g,G
  exists Zf.q _ _,outer
  exists Zf.a _ _,L,a,e,d
  exists Zf.i _ _,m,mg,mb
  exists Zf.n _ _,name,n,x
  exists Zf.r _ _,scope
  exists Zf.p _ _,cd
  exists Zf.s _ _,cl
  exists Zf.ve _ _,suite
  exists Zf.x _ _,Q
  exists Zf.b _ _,news
  exists Zf.h _ _,loose
  exists Zf.k _ _,mean
  intro np b₀ pos rest R F Kb hsm XB TB hx he1 hkx hdx k hk hlo
  obtain ⟨RS,oe₀,he₀,hd₀⟩:=R
  have ty:=RS.ty (M:=model prog w)
  obtain ⟨B,a0,hB,hBG,hl,fl⟩:=RS
  have hL:B.get? L=none:=by
    obtain ⟨_,⟨L',_,hf,hn',_⟩,_⟩:=fl.2.2.1
    cases hf
    exact hn'
  obtain ⟨g₅,_,F₅,K₅⟩:=kts_ground (name:=name) (scope:=scope) (a:=a) (cd:=cd) Kb F hBG fl.1 hsm
  have X₅:=XB.keeps K₅.stays
  refine wpAny_handleBy_cons (codeAny_handlers_test (nameX_K F₅ X₅ (topRead_of (TB.keeps K₅.stays)) hx ((exm_one (X₅.keeps F₅.keep) ty he1).here ?_) hk hkx hdx)) (by intro q;cases q)
  refine codeAny_handlers_suite_as (ZR (ZS _ _) (lands_againW fl fun h₆ fl₆ u₆ dk=>?_))
  obtain ⟨oe,he,hdd,_⟩:=dk e oe₀ he₀
  obtain ⟨oe',ws,he',hc,hw,_⟩:=fl₆.first
  rw [he] at he'
  cases he'
  obtain ⟨g₆,T₆,F₆,K₆⟩:=kts_ground (name:=name) (scope:=scope) (a:=a) (cd:=cd) Kb F hBG fl₆.1 (hsm.trans u₆)
  have ne₆:g₆.get? e=none:=T₆.none_ _ (kts_fresh (name:=name) (scope:=scope) (a:=a) (cd:=cd) F hBG fl₆.2.1 fun o ho hm=>by
    obtain ⟨_,o',ho',hf⟩:=Kb.frames.mem hm
    rw [ho] at ho'
    cases ho'
    obtain ⟨sl,hs⟩:=(hsm.trans u₆) _ _ (F.keep _ _ ho) hf
    rw [he] at hs
    cases hs
    exact hf _ hw)
  have N₆:News g₆ L h₆ ((e,oe)::news):=fun q hq=>by
    rcases List.mem_cons.mp hq with rfl|hq
    · exact News.more F₆ News.nil he (fun es n q=>by rw [hw] at q;cases q) ne₆ _ (.head _)
    · exact ⟨fl₆.1 _ _ (hl q hq).1,(fun z=>by have:=(hl q hq).1;rw [z,hL] at this;cases this),T₆.none_ _ (kts_none F.keep (hl q hq).2.1)⟩
  refine wpAny_storeName_local hlo F₆.ns (fun h₇ hn hs=>k h₇ g₆ oe ws _ (F₆.set hn hs) hc (hdd.trans hd₀) hw (N₆.set hs) K₆ (XB.keeps K₆.stays) (TB.keeps K₆.stays) T₆) ?_
  show (scope.kind == .class||(scope.kind == .module&&L != mainGlobals))=false
  rw [hk];rfl
theorem ZjF:@ZaD prog w A₀ E s' base g G outer L a e d m name scope cd cl n x suite Q news p loose mean mg mb:=ZN (k:=ZaC) rfl ZeV (dC |>.sd (gt dC.d [prog,p]) |>.sc (gt dC.c [w]) |>.se (gt dC.e [A₀]) |>.sg (gt dC.g [E]) |>.sf (gt dC.f [s']) |>.sj (gt dC.j [base,g,G]) |>.sq (gt dC.q [outer]) |>.sa (gt dC.a [L,a,e,d]) |>.si (gt dC.i [m,mg,mb]) |>.sn (gt dC.n [name,n,x]) |>.sr (gt dC.r [scope]) |>.sp (gt dC.p [cd]) |>.ss (gt dC.s [cl]) |>.sve (gt dC.ve [suite]) |>.sx (gt dC.x [Q]) |>.sb (gt dC.b [news]) |>.sh (gt dC.h [loose]) |>.sk (gt dC.k [mean]))
end
end
theorem Zns:True:=by
  walk_at "RST"
  trivial
theorem Zav {D:Addr}:∀ {l:List (Addr×Obj)},LCg.Off1 D l→D∉l.map (·.1)
  | [],_,h=>nomatch h
  | p::r,x,h=>by
    rcases List.mem_cons.mp h with e|h
    · exact x.1 e.symm
    · exact Zav x.2 h
theorem Ja {h₀ h:Heap}{L D:Addr}{o:Obj}{l:List (Addr×Obj)}(_:News h₀ L h ((D,o)::l))(x:LCg.Off1 D l)(k:Za l):Za ((D,o)::l):=List.nodup_cons.mpr ⟨Zav x,k⟩
theorem VO {h₀ h:Heap}{L I C D:Addr}{oI oC oD:Obj}{l:List (Addr×Obj)}(_:News h₀ L h ((I,oI)::(C,oC)::(D,oD)::l))(x:LCg.Off3 I C D l)(ne:(@Ne Nat I C)∧(@Ne Nat I D)∧(@Ne Nat C D))(k:Za l):Za ((I,oI)::(C,oC)::(D,oD)::l):=by
  have nm:∀ {a:Addr},(∀ p∈l,p.1≠a)→a∉l.map (·.1):=fun h hm=>by obtain ⟨q,hq,e⟩:=List.mem_map.mp hm;exact h q hq e
  have o:=x.mem
  refine List.nodup_cons.mpr ⟨?_,List.nodup_cons.mpr ⟨?_,List.nodup_cons.mpr ⟨nm fun p hp=>(o p hp).2.2,k⟩⟩⟩
  · intro h
    rcases List.mem_cons.mp h with e|h
    · exact ne.1 e
    · rcases List.mem_cons.mp h with e|h
      · exact ne.2.1 e
      · exact nm (fun p hp=>(o p hp).1) h
  · intro h
    rcases List.mem_cons.mp h with e|h
    · exact ne.2.2 e
    · exact nm (fun p hp=>(o p hp).2.1) h
theorem Wg {h₀:Heap}{L I C D:Addr}{m:Str→Option Value}{s₁:Shared}{oI oC oD:Obj}{S:List (Addr×Obj)→Prop}{rest:Value→List (Addr×Obj)→Prop}{y:Value}{h':Heap}{tk:Nat}{all news':List (Addr×Obj)}
    (F:Fr h₀ L h' m) (N:News h₀ L h' all) (P:Tk [(I,oI),(C,oC),(D,oD)] all news') (Dn:Za all) (hS:S news') (r:Za news'→rest y news') :
    LCg.CompEnd h₀ L m s₁ I oI C oC D oD S rest y {s₁ with heap:=h',toks:=tk}:=by
  have d:Za ((I,oI)::(C,oC)::(D,oD)::news'):=Dn.perm P.perm
  have d1:=List.nodup_cons.mp d
  have d2:=List.nodup_cons.mp d1.2
  have d3:=List.nodup_cons.mp d2.2
  refine ⟨h',tk,news',rfl,F,Ze N P.perm,LCg.Off3.of fun p hp=>?_,hS,r d3.2⟩
  have hm:p.1∈news'.map (·.1):=List.mem_map_of_mem (f:=(·.1)) hp
  exact ⟨fun e=>d1.1 (e ▸ .tail _ (.tail _ hm)),fun e=>d2.1 (e ▸ .tail _ hm),fun e=>d3.1 (e ▸ hm)⟩
theorem Vy {R r l:List (Addr×Obj)}(h:∀ p∈R,p∈r)(k:∀ p∈r,p∈l):∀ p∈R,p∈l:=fun p hp=>k p (h p hp)
theorem Ud {L:Nat}{o o2 o3 o4:Obj}{l:List (Addr×Obj)}(h:∀ p∈l,p.1<L)(D:Za l):Za ((L+1+1+1+1,o)::(L+1+1+1,o2)::(L+1+1,o3)::(L+1,o4)::l):=by
  have h1:∀ p∈l,p.1<L+1:=fun p hp=>Nat.lt_succ_of_lt (h p hp)
  have h2:∀ p∈l,p.1<L+1+1:=fun p hp=>Nat.lt_succ_of_lt (h1 p hp)
  have h3:∀ p∈l,p.1<L+1+1+1:=fun p hp=>Nat.lt_succ_of_lt (h2 p hp)
  have h4:∀ p∈l,p.1<L+1+1+1+1:=fun p hp=>Nat.lt_succ_of_lt (h3 p hp)
  exact Za.cons ⟨Nat.lt_succ_self _,Nat.lt_succ_of_lt (Nat.lt_succ_self _),Nat.lt_succ_of_lt (Nat.lt_succ_of_lt (Nat.lt_succ_self _)),allLt_of h4⟩ (Za.cons ⟨Nat.lt_succ_self _,Nat.lt_succ_of_lt (Nat.lt_succ_self _),allLt_of h3⟩ (Za.cons ⟨Nat.lt_succ_self _,allLt_of h2⟩ (Za.cons (allLt_of h1) D)))
theorem Znr:True:=by
  walk_at "G slim"
  walk_at "G dct"
  walk_at "G loop"
  trivial
section
variable {w:World}{p:Program}{loose:List Str}{mean:ExcName→Option Value}{mg mb:Str→Option Value}
   {dp un:Nat}{gd:Option (List Code)}{cn:Str}{cs:Scope}{a:Addr}{ccd:Value}{cl:List (Str×Addr)}{outer:List Env}{A₀:Around}{base h₀:Heap}{L:Addr}{m:Str→Option Value}{s:Shared}{Q E:Value→Shared→Prop}
   (B:Below A₀ base outer h₀)(F:Fr h₀ L s.heap m)(X:(K w.params).In h₀)(T:Top p loose mean mg mb h₀)(hk:cs.kind = .function)
include B F X T hk
theorem Znq:True:=by
  walk_at "G der"
  k_with "call ref" =>(k_here;(with_reducible show wpAny _ _ (call (Value.ref 530) _) _ _ _);k_dflt (refine' Vt (B:=?zB) (F:=?zF) (X:=?zX) (T:=?zT) (hk:=?zhk) (N:=?zN) (hdp:=?zhdp) (hun:=?zhun) (mf1:=?zmf1) (mf2:=?zmf2) (mi:=?zmi) (mp:=?zmp) (mc:=?zmc) (hi:=?zhi) (hv:=?zhv) (hc:=?zhc) (hlen:=?zhlen) (hidx:=?zhidx) (ret:=?_);k_extra "z6";(case zmf1=>k_mem);(case zmf2=>k_mem);(case zmi=>k_mem);(case zmp=>k_mem);(case zmc=>k_mem);(case zhi=>first|with_reducible assumption|k_asm);(case zhv=>first|with_reducible assumption|k_asm);(case zhc=>first|with_reducible assumption|k_asm);(case zhlen=>tb_start);(case zhidx=>tb_start);(case zhdp=>ktr_room);(case zhun=>ktr_units));intro b' h' tk' hb' F' N';(try dsimp only))
  trivial
omit B F X T hk
noncomputable def GW {sto sym:Nat}{jf:Hs}{ft8:Tok}{inp outp files alia actn pst f_n flo flod:Nat}{nxt:Int}{jm:Hs}{mcode xl grd rts bgs dbs m_n mad mmd:Nat}{jd:Hs}{oprs flgs d_n dbd f c':Nat}{R TR:List (Addr×Obj)}{sn pj cj ce pe idx:Nat}{oin:Obj}{kin:List (Int×Value)}{cv:List Value}{codes:List Int}{ti:Tok}{rest:List (Addr×Obj)}:Prop:=∀ (B:Below A₀ base outer h₀)(F:Fr h₀ L s.heap m)(X:(K w.params).In h₀)(T:Top p loose mean mg mb h₀)(hk:cs.kind = .function)(N:News h₀ L s.heap rest)(mm1:(mad,instObj 1104 mmd)∈rest)(mm2:(mmd,ZB jm sym mcode sto xl grd rts bgs dbs m_n)∈rest)(md1:(dbs,instObj 1083 dbd)∈rest)(md2:(dbd,Z8 jd flo oprs flgs d_n)∈rest)(mf1:(flo,instObj 541 flod)∈rest)(mf2:(flod,ZL jf inp outp files alia actn pst nxt ft8 f_n)∈rest)(C:CodeHd base 1155 1151)(hR:YC c' f 4 sn R)(hTR:Yn c' TR)(hsR:∀ p∈R,p∈rest)(hsT:∀ p∈TR,p∈rest)(mi:(inp,oin)∈rest)(hi:oin.IsDictOf (intKind PR w) kin)(hv:valueAt kin (sn:Int)=some (.ref pj))(mp:(pj,W.listOf [.ref cj,.int idx ti].toArray pe)∈rest)(mc:(cj,W.listOf cv.toArray ce)∈rest)(hc:IntsAre cv codes)(hlen:codes.length<50)(hidx:idx<1000)(hdp:dp+30<recursionLimit)(hun:un+200<cLine)(ret:∀ (b:Bool)(h':Heap)(tk':Nat),b=decide (codes.length≤idx)→Fr h₀ L h' m→News h₀ L h' rest→Q (.bool b) {s with heap:=h',toks:=tk'}),
   wpAny (model PR w) (ktrTop dp un gd cn cs L a ccd cl outer) (call (.ref f) [.ref mad]) Q E s
noncomputable def UN (c:Zf):Prop:=@cF _ (@GW) c (c.a 4) (c.a 5) (c.vj 0) (c.o 0) (c.a 6) (c.a 7) (c.a 8) (c.a 9) (c.a 10) (c.a 11) (c.a 12) (c.a 13) (c.a 14) (c.m 0) (c.vj 1) (c.a 15) (c.a 16) (c.a 17) (c.a 18) (c.a 19) (c.a 20) (c.a 21) (c.a 22) (c.a 23) (c.vj 2) (c.a 24) (c.a 25) (c.a 26) (c.a 27) (c.a 28) (c.a 29) (c.b 0) (c.b 1) (c.a 30) (c.a 31) (c.a 32) (c.a 33) (c.a 34) (c.a 35) (c.v 0) (c.y 0) (c.u 0) (c.w 0) (c.o 1) (c.b 2)
noncomputable def GV:Zf:=ZM Zj UN
theorem Zca:UN GV:=by
  delta UN cF
  k_extra "gS"
  exists Zf.a _ _,sto,sym,inp,outp,files,alia,actn,pst,f_n,flo,flod,mcode,xl,grd,rts,bgs,dbs,m_n,mad,mmd,oprs,flgs,d_n,dbd,f,c',sn,pj,cj,ce,pe,idx
  exists Zf.vj _ _,jf,jm,jd
  exists Zf.o _ _,ft8,ti
  exists Zf.m _ _,nxt
  exists Zf.b _ _,R,TR,rest
  exists Zf.v _ _,oin
  exists Zf.y _ _,kin
  exists Zf.u _ _,cv
  exists Zf.w _ _,codes
  intro B F X T hk N mm1 mm2 md1 md2 mf1 mf2 C hR hTR hsR hsT mi hi hv mp mc hc hlen hidx hdp hun ret
  delta ZL ZB Z8 at *
  obtain ⟨k1',k2',doc',pm',ctv',o1',o2',td',ts',rfl,ho2,ho1⟩:=hR
  obtain ⟨oc',vs',tq',rfl,hoc,hvs⟩:=hTR
  have mf0:=hsR _ (.head _)
  have mf1':=hsR _ (.tail _ (.head _))
  have mf2':=hsR _ (.tail _ (.tail _ (.head _)))
  have mf3':=hsT _ (.tail _ (.head _))
  refine wpAny_call ?_
  k_dflt (refine' code_nest ?k1 ?k2 ?k3 ?k4 ?k5 ?kA ?kF ?kK ?k6 ?k7 ?k8 ?k9 ?kB ?_ ?c2 ?c3 ?c4 ?c5;(case kA=>exact rfl);(case kF=>exact rfl);(case kK=>assumption);(case k1=>k_asm);(case k2=>k_asm);(case k3=>k_asm);(case k4=>k_asm);(case k5=>k_asm);(case k6=>k_mem);(case k7=>exact codeRec_news (by k_asm) (by k_mem) (by assumption) (by assumption));(case k8=>ktr_room);(case k9=>exact BindsTo.of_eq rfl);(case c5=>decide);(case kB=>exact locs rfl);(case c2=>exact rfl);(case c3=>exact rfl);(case c4=>exact rfl);k_whole)
  intro g' L' h' FG' F' N' B' X' T'
  (try dsimp only);(try k_lift B');(try k_fold)
  k_steps
  exact ret _ _ _ (by assumption) (by k_asm) (by assumption)
theorem Zgq {sto sym jf ft8 inp outp files alia actn pst f_n flo flod nxt jm mcode xl grd rts bgs dbs m_n mad mmd jd oprs flgs d_n dbd f c' R TR sn pj cj ce pe idx oin kin cv codes ti rest}:@GW w p loose mean mg mb dp un gd cn cs a ccd cl outer A₀ base h₀ L m s Q E sto sym jf ft8 inp outp files alia actn pst f_n flo flod nxt jm mcode xl grd rts bgs dbs m_n mad mmd jd oprs flgs d_n dbd f c' R TR sn pj cj ce pe idx oin kin cv codes ti rest:=ZN (k:=GV) rfl Zca (cS w p loose mean mg mb m gd cn cs ccd cl outer A₀ base h₀ s Q E |>.sa (gt dC.a [dp,un,a,L,sto,sym,inp,outp,files,alia,actn,pst,f_n,flo,flod,mcode,xl,grd,rts,bgs,dbs,m_n,mad,mmd,oprs,flgs,d_n,dbd,f,c',sn,pj,cj,ce,pe,idx]) |>.svj (gt dC.vj [jf,jm,jd]) |>.so (gt dC.o [ft8,ti]) |>.sm (gt dC.m [nxt]) |>.sb (gt dC.b [R,TR,rest]) |>.sv (gt dC.v [oin]) |>.sy (gt dC.y [kin]) |>.su (gt dC.u [cv]) |>.sw (gt dC.w [codes]))
include B F X T hk
theorem Znp:True:=by
  walk_at "G AskC"
  walk_at "G try"
  k_with "call ref" =>(k_here;k_dflt (refine' Zgq (B:=?zB) (F:=?zF) (X:=?zX) (T:=?zT) (hk:=?zhk) (N:=?zN) (hdp:=?zhdp) (hun:=?zhun) (mm1:=?zmm1) (mm2:=?zmm2) (md1:=?zmd1) (md2:=?zmd2) (mf1:=?zmf1) (mf2:=?zmf2) (mi:=?zmi) (mp:=?zmp) (mc:=?zmc) (hR:=?zhR) (hTR:=?zhTR) (C:=?zC) (hi:=?zhi) (hv:=?zhv) (hc:=?zhc) (hlen:=?zhlen) (hidx:=?zhidx) (hsR:=?zhsR) (hsT:=?zhsT) (ret:=?_);k_extra "z6";(case zmm1=>k_mem);(case zmm2=>k_mem);(case zmd1=>k_mem);(case zmd2=>k_mem);(case zmf1=>k_mem);(case zmf2=>k_mem);(case zmi=>k_mem);(case zmp=>k_mem);(case zmc=>k_mem);(case zhR=>first|with_reducible assumption|k_asm);(case zhTR=>first|with_reducible assumption|k_asm);(case zC=>first|with_reducible assumption|k_asm);(case zhi=>first|with_reducible assumption|k_asm);(case zhv=>first|with_reducible assumption|k_asm);(case zhc=>first|with_reducible assumption|k_asm);(case zhlen=>tb_start);(case zhidx=>tb_start);(case zhsR=>exact Vy (by with_reducible assumption) (by intro q hq;k_ownIn));(case zhsT=>exact Vy (by with_reducible assumption) (by intro q hq;k_ownIn));(case zhdp=>ktr_room);(case zhun=>ktr_units));intro b' h' tk' hb' F' N';(try dsimp only))
  trivial
omit B F X T hk
noncomputable def JZ {sto sym:Nat}{jf:Hs}{ft8:Tok}{inp outp files alia actn pst f_n flo flod:Nat}{nxt:Int}{jm:Hs}{mcode xl grd rts bgs dbs m_n mad mmd:Nat}{jd:Hs}{oprs flgs d_n dbd f c' pl ple:Nat}{R TR:List (Addr×Obj)}{sn pj cj ce pe idx:Nat}{oin:Obj}{kin:List (Int×Value)}{cv:List Value}{codes:List Int}{ti:Tok}{rest:List (Addr×Obj)}:Prop:=∀ (B:Below A₀ base outer h₀)(F:Fr h₀ L s.heap m)(X:(K w.params).In h₀)(T:Top p loose mean mg mb h₀)(hk:cs.kind = .function)(N:News h₀ L s.heap rest)(D:Za rest)(mm1:(mad,instObj 1104 mmd)∈rest)(mm2:(mmd,ZB jm sym mcode sto xl grd rts bgs dbs m_n)∈rest)(md1:(dbs,instObj 1083 dbd)∈rest)(md2:(dbd,Z8 jd flo oprs flgs d_n)∈rest)(mf1:(flo,instObj 541 flod)∈rest)(mf2:(flod,ZL jf inp outp files alia actn pst nxt ft8 f_n)∈rest)(C:CodeHd base 1155 1151)(hR:YC c' f 4 sn R)(hTR:Yn c' TR)(hsR:∀ p∈R,p∈rest)(hsT:∀ p∈TR,p∈rest)(mpl:(pl,W.listOf #[] ple)∈rest)(mi:(inp,oin)∈rest)(hi:oin.IsDictOf (intKind PR w) kin)(hv:valueAt kin (sn:Int)=some (.ref pj))(mp:(pj,W.listOf [.ref cj,.int idx ti].toArray pe)∈rest)(mc:(cj,W.listOf cv.toArray ce)∈rest)(hc:IntsAre cv codes)(hlen:codes.length<50)(hidx:idx<1000)(hdp:dp+60<recursionLimit)(hun:un+500<cLine)(ret:∀ (t l le:Nat)(b:Bool)(tk:Tok)(h':Heap)(tk':Nat),b=decide (codes.length≤idx)→Fr h₀ L h' m→News h₀ L h' ((t,{cls :=.type "tuple",data :=.seq [.str (.ofString (if b then "yes" else "no")) tk,.ref l].toArray})::(l,W.listOf #[] le)::rest)→Za ((t,{cls :=.type "tuple",data :=.seq [.str (.ofString (if b then "yes" else "no")) tk,.ref l].toArray})::(l,W.listOf #[] le)::rest)→Q (.ref t) {s with heap:=h',toks:=tk'}),
   wpAny (model PR w) (ktrTop dp un gd cn cs L a ccd cl outer) (call (.ref 1128) [.ref f,.ref mad,.ref pl]) Q E s
noncomputable def VS (c:Zf):Prop:=@cF _ (@JZ) c (c.a 4) (c.a 5) (c.vj 0) (c.o 0) (c.a 6) (c.a 7) (c.a 8) (c.a 9) (c.a 10) (c.a 11) (c.a 12) (c.a 13) (c.a 14) (c.m 0) (c.vj 1) (c.a 15) (c.a 16) (c.a 17) (c.a 18) (c.a 19) (c.a 20) (c.a 21) (c.a 22) (c.a 23) (c.vj 2) (c.a 24) (c.a 25) (c.a 26) (c.a 27) (c.a 28) (c.a 29) (c.a 30) (c.a 31) (c.b 0) (c.b 1) (c.a 32) (c.a 33) (c.a 34) (c.a 35) (c.a 36) (c.a 37) (c.v 0) (c.y 0) (c.u 0) (c.w 0) (c.o 1) (c.b 2)
noncomputable def JY:Zf:=ZM Zj VS
theorem ZbB:VS JY:=by
  delta VS cF
  k_extra "gS"
  exists Zf.a _ _,sto,sym,inp,outp,files,alia,actn,pst,f_n,flo,flod,mcode,xl,grd,rts,bgs,dbs,m_n,mad,mmd,oprs,flgs,d_n,dbd,f,c',pl,ple,sn,pj,cj,ce,pe,idx
  exists Zf.vj _ _,jf,jm,jd
  exists Zf.o _ _,ft8,ti
  exists Zf.m _ _,nxt
  exists Zf.b _ _,R,TR,rest
  exists Zf.v _ _,oin
  exists Zf.y _ _,kin
  exists Zf.u _ _,cv
  exists Zf.w _ _,codes
  intro B F X T hk N D mm1 mm2 md1 md2 mf1 mf2 C hR hTR hsR hsT mpl mi hi hv mp mc hc hlen hidx hdp hun ret
  delta ZL ZB Z8 at *
  obtain ⟨doc',pm',ctv',k1',k2',mf0⟩:∃ (doc pm ctv:Value) (k1 k2:Nat),(f,fnMade (.ofString "pure") pQ pA pB pS [(.ofString "spot",k2),(.ofString "deed",k1)] doc pm c' ctv)∈rest:=by
    obtain ⟨k1,k2,doc,pm,ctv,_,_,_,_,e,_,_⟩:=id hR
    exact ⟨doc,pm,ctv,k1,k2,hsR _ (by rw [e];exact .head _)⟩
  refine wpAny_call ?_
  k_dflt (refine' code_defC ?k1 ?k2 ?k3 ?k4 ?k5 ?kA ?kF ?kK ?k6 ?k7 ?k8 ?k9 ?kB ?kD ?_ ?c2 ?c3 ?c4;(case kA=>exact rfl);(case kF=>exact rfl);(case kK=>assumption);(case k1=>k_asm);(case k2=>k_asm);(case k3=>k_asm);(case k4=>k_asm);(case k5=>k_asm);(case k6=>k_is);(case k7=>k_is);(case k8=>ktr_room);(case k9=>exact BindsTo.of_eq rfl);(case kB=>exact rfl);(case kD=>decide +kernel);(case c2=>exact rfl);(case c3=>exact rfl);(case c4=>exact rfl);k_whole)
  intro g' L' h' tk' cells' FG' F' N' Y' B' X' T' l1
  k_cells Y'
  (try simp only [List.cons_append,List.nil_append] at N')
  (try dsimp only);(try k_lift B');(try k_fold)
  have D₂:=Zd N' (Ud l1 D)
  k_steps
  · rename News _ _ _ _=>nN
    have nD:=Zd nN (by ktr_unf)
    exact ret _ _ _ true _ _ _ ((‹b'=true›).symm.trans hb') (by k_asm) (Zc nN (by ktr_rel)) (Zb nD (by ktr_rel))
  · rename News _ _ _ _=>nN
    have nD:=Zd nN (by ktr_unf)
    exact ret _ _ _ false _ _ _ ((‹b'=false›).symm.trans hb') (by k_asm) (Zc nN (by ktr_rel)) (Zb nD (by ktr_rel))
theorem Zfi {sto sym jf ft8 inp outp files alia actn pst f_n flo flod nxt jm mcode xl grd rts bgs dbs m_n mad mmd jd oprs flgs d_n dbd f c' pl ple R TR sn pj cj ce pe idx oin kin cv codes ti rest}:@JZ w p loose mean mg mb dp un gd cn cs a ccd cl outer A₀ base h₀ L m s Q E sto sym jf ft8 inp outp files alia actn pst f_n flo flod nxt jm mcode xl grd rts bgs dbs m_n mad mmd jd oprs flgs d_n dbd f c' pl ple R TR sn pj cj ce pe idx oin kin cv codes ti rest:=ZN (k:=JY) rfl ZbB (cS w p loose mean mg mb m gd cn cs ccd cl outer A₀ base h₀ s Q E |>.sa (gt dC.a [dp,un,a,L,sto,sym,inp,outp,files,alia,actn,pst,f_n,flo,flod,mcode,xl,grd,rts,bgs,dbs,m_n,mad,mmd,oprs,flgs,d_n,dbd,f,c',pl,ple,sn,pj,cj,ce,pe,idx]) |>.svj (gt dC.vj [jf,jm,jd]) |>.so (gt dC.o [ft8,ti]) |>.sm (gt dC.m [nxt]) |>.sb (gt dC.b [R,TR,rest]) |>.sv (gt dC.v [oin]) |>.sy (gt dC.y [kin]) |>.su (gt dC.u [cv]) |>.sw (gt dC.w [codes]))
include B F X T hk
end
theorem Zno:True:=by
  walk_at "RST"
  trivial
noncomputable def Zan:Tgt→Int | .v=>0 | .a _ _=>4 | .i _=>5
noncomputable def V1 (k:Nat):Tgt→Int | .v=>(k:Int) | .a i _=>(i:Int) | .i k=>k
noncomputable def Zw:Tgt→Str | .v =>.ofString "v" | .a _ _ =>.ofString "a" | .i _ =>.ofString "i"
noncomputable def YQ:Tgt→Int | .v=>0 | .a i _=>(i:Int) | .i k=>k
@[reducible] noncomputable def ZO (tg:Tgt)(t1 t2:Tok):Obj:={cls :=.type "tuple",data :=.seq [Value.str (Zw tg) t1,Value.int (YQ tg) t2].toArray}
noncomputable def hpO (tg:Tgt)(hv:Array Value)(he c:Nat):Obj:=match tg with | .v=>W.listOf (hv.push (.ref c)) (he+1)|_=>W.listOf hv he
theorem Zha {xv:Array Value}(h:xv.size=1):∃ a,xv=#[a]:=⟨xv[0],by
  apply Array.ext
  · simp [h]
  · intro i h1 h2
    have:i=0:=by tb_start
    subst this
    simp⟩
theorem Zg9 {xv:Array Value}(h:xv.size=2):∃ a b,xv=#[a,b]:=⟨xv[0],xv[1],by
  apply Array.ext
  · simp [h]
  · intro i h1 h2
    have:i=0∨i=1:=by tb_start
    rcases this with rfl|rfl <;> simp⟩
noncomputable def Y3 (_:Nat):Prop:=True
noncomputable def Zf5 (_:Bool):Prop:=True
theorem Znn:True:=by
  walk_at "G slim"
  walk_at "G loop"
  trivial
section
variable {w:World}{p:Program}{loose:List Str}{mean:ExcName→Option Value}{mg mb:Str→Option Value}
   {dp un:Nat}{gd:Option (List Code)}{cn:Str}{cs:Scope}{a:Addr}{ccd:Value}{cl:List (Str×Addr)}{outer:List Env}{A₀:Around}{base h₀:Heap}{L:Addr}{m:Str→Option Value}{s:Shared}{Q E:Value→Shared→Prop}
   (B:Below A₀ base outer h₀)(F:Fr h₀ L s.heap m)(X:(K w.params).In h₀)(T:Top p loose mean mg mb h₀)(hk:cs.kind = .function)
include B F X T hk
theorem Zhk {tg:Tgt}{js:Hs}{hp stk trl s_n:Nat}{sto stod:Nat}{sym tm tb he:Nat}{ot:Obj}{hv:Array Value}{t1 t2:Tok}{news rest:List (Addr×Obj)}
   (N:News h₀ L s.heap news)(D:Za news)(P:Tk [(hp,W.listOf hv he),(tb,ot)] news rest)(hsz:hv.size<100000)(mk:Y3 hp)(ms1:(sto,instObj 430 stod)∈rest)(ms2:(stod,Zy js sym hp stk trl s_n)∈rest)(mt:(tm,ZO tg t1 t2)∈rest)(hts:ot.IsDictOf (strKind PR w) [])(hti:ot.IsDictOf (intKind PR w) [])(lo:(tb==sysModules)=false)
   (hdp:dp+25<recursionLimit)(hun:un+300<cLine)
   (ret:∀ (c:Nat)(k1 k2:Tok)(h':Heap)(tk':Nat),Fr h₀ L h' m→News h₀ L h' ((c,Zk (Zan tg) (V1 hv.size tg) k1 k2)::(hp,hpO tg hv he c)::rest)→Za ((c,Zk (Zan tg) (V1 hv.size tg) k1 k2)::(hp,hpO tg hv he c)::rest)→Q (.ref c) {s with heap:=h',toks:=tk'}) :
   wpAny (model PR w) (ktrTop dp un gd cn cs L a ccd cl outer) (call (.ref 420) [.ref sto,.ref tm,.ref tb]) Q E s:=by
  delta Zy at *
  have N₁:News h₀ L s.heap ((hp,W.listOf hv he)::(tb,ot)::rest):=Ze N P.perm
  have D₁:Za ((hp,W.listOf hv he)::(tb,ot)::rest):=D.perm P.perm
  have out:∀ {c:Addr×Obj},Tk (c::(hp,W.listOf hv he)::rest) (c::(hp,W.listOf hv he)::(tb,ot)::rest) [(tb,ot)]:=fun {c}=>⟨by
    rw [show c::(hp,W.listOf hv he)::rest++[(tb,ot)]=[c,(hp,W.listOf hv he)]++(rest++[(tb,ot)]) from rfl]
    exact List.Perm.append_left [c,(hp,W.listOf hv he)] (List.perm_append_comm (l₁:=[(tb,ot)]) (l₂:=rest))⟩
  cases tg with
  | v=>exact Zhj B F X T hk N D P hsz ms1 ms2 mt hts hti lo hdp hun ret
  | a i x=>exact Zhm B F X T hk N₁ D₁ (.tail _ (.tail _ ms1)) (.tail _ (.tail _ ms2)) (.tail _ (.tail _ mt)) (.tail _ (.head _)) hts hti lo hdp hun fun c k1 k2 h' tk' F' N' D'=>ret c k1 k2 h' tk' F' (Zc N' out) (Zb D' out)
  | i k=>exact Zhl B F X T hk N₁ D₁ (.tail _ (.tail _ ms1)) (.tail _ (.tail _ ms2)) (.tail _ (.tail _ mt)) (.tail _ (.head _)) hts hti lo hdp hun fun c k1 k2 h' tk' F' N' D'=>ret c k1 k2 h' tk' F' (Zc N' out) (Zb D' out)
theorem Zga {chars:Bool}{js:Hs}{hp stk trl s_n:Nat}{sto stod:Nat}{jm:Hs}{mcode xl grd rts bgs dbs m_n:Nat}{mad mmd:Nat}{sym c c2:Nat}{v:Int}{t1 t2:Tok}{rest:List (Addr×Obj)}
   (N:News h₀ L s.heap rest)(D:Za rest)(mkc:Zf5 chars)(mm1:(mad,instObj 1104 mmd)∈rest)(mm2:(mmd,ZB jm sym mcode sto xl grd rts bgs dbs m_n)∈rest)(ms1:(sto,instObj 430 stod)∈rest)(ms2:(stod,Zy js sym hp stk trl s_n)∈rest)(dr:Der rest hp c c2)(mc2:(c2,Zk (bif chars then 4 else 5) v t1 t2)∈rest)
   (hdp:dp+25<recursionLimit)(hun:un+300<cLine)
   (ret:∀ (t:Nat)(k1 k2:Tok)(h':Heap)(tk':Nat),Fr h₀ L h' m→News h₀ L h' ((t,Ga (bif chars then "a" else "i") v k1 k2)::rest)→Za ((t,Ga (bif chars then "a" else "i") v k1 k2)::rest)→Q (.ref t) {s with heap:=h',toks:=tk'}) :
   wpAny (model PR w) (ktrTop dp un gd cn cs L a ccd cl outer) (call (.ref 961) [.ref mad,.ref c]) Q E s:=by
  delta Zy ZB at *
  cases chars with
  | true=>exact ZbQ B F X T hk N D mm1 mm2 ms1 ms2 dr mc2 hdp hun ret
  | false=>exact ZbO B F X T hk N D mm1 mm2 ms1 ms2 dr mc2 hdp hun ret
omit B F X T hk
noncomputable def GH {jm:Hs}{mcode xl grd rts bgs dbs m_n mad mmd sym sto c xe:Nat}{v0:Value}{tn:Tok}{news rest:List (Addr×Obj)}:Prop:=∀ (B:Below A₀ base outer h₀)(F:Fr h₀ L s.heap m)(X:(K w.params).In h₀)(T:Top p loose mean mg mb h₀)(hk:cs.kind = .function)(N:News h₀ L s.heap news)(D:Za news)(P:Tk [(xl,W.listOf [v0].toArray xe)] news rest)(mm1:(mad,instObj 1104 mmd)∈rest)(mm2:(mmd,ZB jm sym mcode sto xl grd rts bgs dbs m_n)∈rest)(hdp:dp+10<recursionLimit)(hun:un+60<cLine)(ret:∀ (xv':Array Value)(xe':Nat)(h':Heap)(tk':Nat),xv'.size=2→xv'[1]? = some (.ref c)→Fr h₀ L h' m→News h₀ L h' ((xl,W.listOf xv' xe')::rest)→Za ((xl,W.listOf xv' xe')::rest)→Q .none {s with heap:=h',toks:=tk'}),
   wpAny (model PR w) (ktrTop dp un gd cn cs L a ccd cl outer) (call (.ref 933) [.ref mad,.int 1 tn,.ref c]) Q E s
noncomputable def UF (c:Zf):Prop:=@cF _ (@GH) c (c.vj 0) (c.a 4) (c.a 5) (c.a 6) (c.a 7) (c.a 8) (c.a 9) (c.a 10) (c.a 11) (c.a 12) (c.a 13) (c.a 14) (c.a 15) (c.a 16) (c.p 1) (c.o 0) (c.b 0) (c.b 1)
noncomputable def GG:Zf:=ZM Zj UF
theorem ZbY:UF GG:=by
  delta UF cF
  k_extra "gS"
  exists Zf.a _ _,mcode,xl,grd,rts,bgs,dbs,m_n,mad,mmd,sym,sto,c,xe
  exists Zf.p _ _,v0
  exists Zf.vj _ _,jm
  exists Zf.o _ _,tn
  exists Zf.b _ _,news,rest
  intro B F X T hk N D P mm1 mm2 hdp hun ret
  delta ZB at *
  have N₁:News h₀ L s.heap ((xl,W.listOf [v0].toArray xe)::rest):=Ze N P.perm
  have D₁:Za ((xl,W.listOf [v0].toArray xe)::rest):=D.perm P.perm
  clear N D P
  refine wpAny_call ?_
  k_dflt cell_enter
  k_steps
  rename News _ _ _ _=>nN
  have nD:=Zd nN (by ktr_unf)
  exact ret _ _ _ _ rfl rfl (by k_asm) (Zc nN (by ktr_rel)) (Zb nD (by ktr_rel))
theorem Zgh {jm mcode xl grd rts bgs dbs m_n mad mmd sym sto c xe v0 tn news rest}:@GH w p loose mean mg mb dp un gd cn cs a ccd cl outer A₀ base h₀ L m s Q E jm mcode xl grd rts bgs dbs m_n mad mmd sym sto c xe v0 tn news rest:=ZN (k:=GG) rfl ZbY (cS w p loose mean mg mb m gd cn cs ccd cl outer A₀ base h₀ s Q E |>.sa (gt dC.a [dp,un,a,L,mcode,xl,grd,rts,bgs,dbs,m_n,mad,mmd,sym,sto,c,xe]) |>.sp (gt dC.p [ccd,v0]) |>.svj (gt dC.vj [jm]) |>.so (gt dC.o [tn]) |>.sb (gt dC.b [news,rest]))
include B F X T hk
theorem Zgg {jm:Hs}{mcode xl grd rts bgs dbs m_n:Nat}{mad mmd:Nat}{sym sto c xe:Nat}{v0 v1:Value}{tn:Tok}{news rest:List (Addr×Obj)}
   (N:News h₀ L s.heap news)(D:Za news)(P:Tk [(xl,W.listOf [v0,v1].toArray xe)] news rest)(mm1:(mad,instObj 1104 mmd)∈rest)(mm2:(mmd,ZB jm sym mcode sto xl grd rts bgs dbs m_n)∈rest)
   (hdp:dp+10<recursionLimit)(hun:un+60<cLine)
   (ret:∀ (xv':Array Value)(xe':Nat)(h':Heap)(tk':Nat),xv'.size=2→xv'[1]? = some (.ref c)→Fr h₀ L h' m→News h₀ L h' ((xl,W.listOf xv' xe')::rest)→Za ((xl,W.listOf xv' xe')::rest)→Q .none {s with heap:=h',toks:=tk'}) :
   wpAny (model PR w) (ktrTop dp un gd cn cs L a ccd cl outer) (call (.ref 933) [.ref mad,.int 1 tn,.ref c]) Q E s:=by
  delta ZB at *
  have N₁:News h₀ L s.heap ((xl,W.listOf [v0,v1].toArray xe)::rest):=Ze N P.perm
  have D₁:Za ((xl,W.listOf [v0,v1].toArray xe)::rest):=D.perm P.perm
  clear N D P
  refine wpAny_call ?_
  k_dflt cell_enter
  k_steps
  rename News _ _ _ _=>nN
  have nD:=Zd nN (by ktr_unf)
  exact ret _ _ _ _ rfl rfl (by k_asm) (Zc nN (by ktr_rel)) (Zb nD (by ktr_rel))
theorem Zgf {jm:Hs}{mcode xl grd rts bgs dbs m_n:Nat}{mad mmd:Nat}{sym sto c xe:Nat}{xv:Array Value}{q:Int}{tn:Tok}{news rest:List (Addr×Obj)}
   (N:News h₀ L s.heap news)(D:Za news)(P:Tk [(xl,W.listOf xv xe)] news rest)(mm1:(mad,instObj 1104 mmd)∈rest)(mm2:(mmd,ZB jm sym mcode sto xl grd rts bgs dbs m_n)∈rest)(hx:xv.size=1∨xv.size=2)(hq:q=1)
   (hdp:dp+10<recursionLimit)(hun:un+60<cLine)
   (ret:∀ (xv':Array Value)(xe':Nat)(h':Heap)(tk':Nat),xv'.size=2→xv'[1]? = some (.ref c)→Fr h₀ L h' m→News h₀ L h' ((xl,W.listOf xv' xe')::rest)→Za ((xl,W.listOf xv' xe')::rest)→Q .none {s with heap:=h',toks:=tk'}) :
   wpAny (model PR w) (ktrTop dp un gd cn cs L a ccd cl outer) (call (.ref 933) [.ref mad,.int q tn,.ref c]) Q E s:=by
  delta ZB at *
  subst hq
  rcases hx with h|h
  · obtain ⟨a,rfl⟩:=Zha h
    exact Zgh B F X T hk N D P mm1 mm2 hdp hun ret
  · obtain ⟨a,b,rfl⟩:=Zg9 h
    exact Zgg B F X T hk N D P mm1 mm2 hdp hun ret
theorem Znm:True:=by
  k_with "call ref" =>(k_here;(with_reducible show wpAny _ _ (call (Value.ref 933) _) _ _ _);k_dflt (refine' Zgf (B:=?zB) (F:=?zF) (X:=?zX) (T:=?zT) (hk:=?zhk) (N:=?zN) (hdp:=?zhdp) (hun:=?zhun) (mm1:=?zmm1) (mm2:=?zmm2) (hx:=?zhx) (hq:=?zhq) (P:=?zP) (D:=?zD) (ret:=?_);k_extra "z6";(case zhx=>with_reducible assumption);(case zP=>ktr_rel);(case zmm1=>k_mem);(case zmm2=>k_mem);(case zhq=>tb_start);(case zhdp=>ktr_room);(case zhun=>ktr_units);(case zD=>ktr_unf));intro xv' xe' h' tk' hxs' hxc' F' N' D';(try dsimp only))
  trivial
omit B F X T hk
noncomputable def GJ {jm:Hs}{mcode xl grd rts bgs dbs m_n mad mmd sym sto c xe lc le:Nat}{xv:Array Value}{news rest:List (Addr×Obj)}:Prop:=∀ (B:Below A₀ base outer h₀)(F:Fr h₀ L s.heap m)(X:(K w.params).In h₀)(T:Top p loose mean mg mb h₀)(hk:cs.kind = .function)(N:News h₀ L s.heap news)(D:Za news)(P:Tk [(xl,W.listOf xv xe)] news rest)(mm1:(mad,instObj 1104 mmd)∈rest)(mm2:(mmd,ZB jm sym mcode sto xl grd rts bgs dbs m_n)∈rest)(hx:xv.size=1∨xv.size=2)(mlc:(lc,W.listOf [.ref c].toArray le)∈rest)(hdp:dp+20<recursionLimit)(hun:un+120<cLine)(ret:∀ (xv':Array Value)(xe':Nat)(h':Heap)(tk':Nat),xv'.size=2→xv'[1]? = some (.ref c)→Fr h₀ L h' m→News h₀ L h' ((xl,W.listOf xv' xe')::rest)→Za ((xl,W.listOf xv' xe')::rest)→Q .none {s with heap:=h',toks:=tk'}),
   wpAny (model PR w) (ktrTop dp un gd cn cs L a ccd cl outer) (call (.ref 940) [.ref mad,.ref lc]) Q E s
noncomputable def UG (c:Zf):Prop:=@cF _ (@GJ) c (c.vj 0) (c.a 4) (c.a 5) (c.a 6) (c.a 7) (c.a 8) (c.a 9) (c.a 10) (c.a 11) (c.a 12) (c.a 13) (c.a 14) (c.a 15) (c.a 16) (c.a 17) (c.a 18) (c.vc 0) (c.b 0) (c.b 1)
noncomputable def GI:Zf:=ZM Zj UG
theorem ZbZ:UG GI:=by
  delta UG cF
  k_extra "gS"
  exists Zf.a _ _,mcode,xl,grd,rts,bgs,dbs,m_n,mad,mmd,sym,sto,c,xe,lc,le
  exists Zf.vj _ _,jm
  exists Zf.vc _ _,xv
  exists Zf.b _ _,news,rest
  intro B F X T hk N D P mm1 mm2 hx mlc hdp hun ret
  delta ZB at *
  have N₁:News h₀ L s.heap ((xl,W.listOf xv xe)::rest):=Ze N P.perm
  have D₁:Za ((xl,W.listOf xv xe)::rest):=D.perm P.perm
  clear N D P
  refine wpAny_call ?_
  k_dflt cell_enter
  k_steps
  rename News _ _ _ _=>nN
  have nD:=Zd nN (by ktr_unf)
  exact ret _ _ _ _ (by assumption) (by assumption) (by k_asm) (Zc nN (by ktr_rel)) (Zb nD (by ktr_rel))
theorem Zgi {jm mcode xl grd rts bgs dbs m_n mad mmd sym sto c xe lc le xv news rest}:@GJ w p loose mean mg mb dp un gd cn cs a ccd cl outer A₀ base h₀ L m s Q E jm mcode xl grd rts bgs dbs m_n mad mmd sym sto c xe lc le xv news rest:=ZN (k:=GI) rfl ZbZ (cS w p loose mean mg mb m gd cn cs ccd cl outer A₀ base h₀ s Q E |>.sa (gt dC.a [dp,un,a,L,mcode,xl,grd,rts,bgs,dbs,m_n,mad,mmd,sym,sto,c,xe,lc,le]) |>.svj (gt dC.vj [jm]) |>.svc (gt dC.vc [xv]) |>.sb (gt dC.b [news,rest]))
include B F X T hk
end
theorem Znl:True:=by
  walk_at "RST"
  trivial
noncomputable def ZbF (l:List W.Dat):W.Dat :=.tuple [.str (.ofString "yes"),.list l]
noncomputable def noD:W.Dat :=.tuple [.str (.ofString "no"),.list []]
noncomputable def YA:Bool→Tgt→Int→W.Dat
  | c,.v,v=>ZbF [.tuple [.str (.ofString (bif c then "a" else "i")),.int v]]
  | _,.a i _,v=>if (i:Int)=v then ZbF [] else noD
  | _,.i k,v=>if k=v then ZbF [] else noD
noncomputable def J9:Tgt→Int→Bool
  | .v,_=>true
  | .a i _,v=>decide ((i:Int)=v)
  | .i k,v=>decide (k=v)
theorem ZaV {c:Bool}{tg:Tgt}{v:Int}(h:tg ≠ .v):YA c tg v=if J9 tg v=true then ZbF [] else noD:=by
  cases tg with
  | v=>exact absurd rfl h
  | a i x=>unfold YA J9;by_cases q:(i:Int)=v <;> simp [q]
  | i k=>unfold YA J9;by_cases q:k=v <;> simp [q]
noncomputable def Yl (TX:List Str)(FN:List (Int×Int))(chars mv:Bool)(sn:Int)(past:Bool)(codes:List Int)(idx:Nat)(act:Str)(tg:Tgt)(rd:W.Dat)(idx':Nat)(past':Bool):Prop :=
  (∃ dd,rd = .tuple [.str (.ofString "error"),dd]∧Wx TX FN chars mv sn past codes idx act tg dd idx' past') ∨
  (ZF chars tg∧Y4 past codes idx act∧idx'=Zt mv codes.length idx∧past'=Zs mv past codes.length idx∧∃ v:Int,Uk TX chars codes idx (bif chars then 4 else 5) v∧rd=YA chars tg v)
noncomputable def Zaf (TX:List Str):Tgt→Prop
  | .a i x=>TX[i]? = some x∧x.length<1000
  | _=>True
structure PSpec (w:World) (fix:List (Addr×Obj)) (tg:Tgt) (chars mv:Bool) (f mad sn tl an fl fn hp xl pj cj pst:Nat) (act:Str) (codes:List Int):Prop where
  call:∀ {p:Program} {loose:List Str} {mean:ExcName→Option Value} {mg mb:Str→Option Value}
   {dp un:Nat}{gd:Option (List Code)}{cn:Str}{cs:Scope}{a:Addr}{ccd:Value}{cl:List (Str×Addr)}{outer:List Env}{A₀:Around}{base h₀:Heap}{L:Addr}{m:Str→Option Value}{s:Shared}{Q E:Value→Shared→Prop}
   {c he xe pe idx:Nat}{hv xv:Array Value}{t1 t2 ti:Tok}{ops:Obj}{kps:List (Int×Value)}{past:Bool}{TX:List Str}{FN:List (Int×Int)}{S news rest:List (Addr×Obj)}
   (B:Below A₀ base outer h₀)(F:Fr h₀ L s.heap m)(X:(K w.params).In h₀)(T:Top p loose mean mg mb h₀)(hk:cs.kind = .function)(C:CodeHd base 1155 1151)
   (N:News h₀ L s.heap news)(P:Tk ((hp,hpO tg hv he c)::(pj,W.listOf [.ref cj,.int idx ti].toArray pe)::(pst,ops)::S) news rest)(hS:Zh w tl an fl fn TX FN S)(D:Za news)(hfix:∀ q∈fix,q∈rest)
   (mc':(c,Zk (Zan tg) (V1 hv.size tg) t1 t2)∈rest)(hsz:hv.size<90000)(mx:(xl,W.listOf xv xe)∈rest)(hx:xv[1]? = some (.ref c))(hit:Zaf TX tg)
   (hidx:idx<900)(hps:ops.IsDictOf (intKind PR w) kps)(hpb:(valueAt kps (sn:Int)).isSome=past)(hpz:kps.length<1000)
   (hb:TX.length<20000)(hb':FN.length<20000)
   (hdp:dp+120<recursionLimit)(hun:un+800<cLine)
   (retv:tg = .v→∀ (c2:Nat)(v:Int)(t3 t4 ti':Tok)(pe':Nat)(kps':List (Int×Value))(ops':Obj)(TX':List Str)(S':List (Addr×Obj))(h':Heap)(tk':Nat),Y4 past codes idx act→Uk TX' chars codes idx (bif chars then 4 else 5) v→Zr w sn kps kps' ops' (Zs mv past codes.length idx)→Zh w tl an fl fn TX' FN S'→TX<+:TX'→TX'.length≤TX.length+1→Fr h₀ L h' m →
      News h₀ L h' ((c2,Zk (bif chars then 4 else 5) v t3 t4)::(hp,W.listOf ((hv.push (.ref c)).setIfInBounds hv.size (.ref c2)) (he+1))::(pj,W.listOf [.ref cj,.int (Zt mv codes.length idx) ti'].toArray pe')::(pst,ops')::(S'++rest))→Za ((c2,Zk (bif chars then 4 else 5) v t3 t4)::(hp,W.listOf ((hv.push (.ref c)).setIfInBounds hv.size (.ref c2)) (he+1))::(pj,W.listOf [.ref cj,.int (Zt mv codes.length idx) ti'].toArray pe')::(pst,ops')::(S'++rest))→Q (.bool true) {s with heap:=h',toks:=tk'})
   (retc:tg ≠ .v→∀ (b:Bool)(v:Int)(ti':Tok)(pe':Nat)(kps':List (Int×Value))(ops':Obj)(TX':List Str)(S':List (Addr×Obj))(h':Heap)(tk':Nat),ZF chars tg→Y4 past codes idx act→Uk TX' chars codes idx (bif chars then 4 else 5) v→b=J9 tg v→Zr w sn kps kps' ops' (Zs mv past codes.length idx)→Zh w tl an fl fn TX' FN S'→TX<+:TX'→TX'.length≤TX.length+1→Fr h₀ L h' m →
      News h₀ L h' ((hp,hpO tg hv he c)::(pj,W.listOf [.ref cj,.int (Zt mv codes.length idx) ti'].toArray pe')::(pst,ops')::(S'++rest))→Za ((hp,hpO tg hv he c)::(pj,W.listOf [.ref cj,.int (Zt mv codes.length idx) ti'].toArray pe')::(pst,ops')::(S'++rest))→Q (.bool b) {s with heap:=h',toks:=tk'})
   (exc:∀ (e d bv:Nat)(hsh:Int)(tk ti':Tok)(pe' idx':Nat)(past':Bool)(kps':List (Int×Value))(ops':Obj)(TX':List Str)(FN':List (Int×Int))(S' TT':List (Addr×Obj))(dd:W.Dat)(g' h':Heap)(tk':Nat),Wx TX' FN' chars mv sn past codes idx act tg dd idx' past'→Zr w sn kps kps' ops' past'→Zh w tl an fl fn TX' FN' S'→Fr h₀ L g' m →
      RaisedD base g' (envX cn cs L a ccd cl::outer) e (.ref 51) d ((d,dictOf [⟨hsh,.str ball tk,.ref bv⟩] 1)::(hp,hpO tg hv he c)::(pj,W.listOf [.ref cj,.int idx' ti'].toArray pe')::(pst,ops')::(S'++(TT'++rest))) h'→g'.UpToSlots h'→Za ((d,dictOf [⟨hsh,.str ball tk,.ref bv⟩] 1)::(hp,hpO tg hv he c)::(pj,W.listOf [.ref cj,.int idx' ti'].toArray pe')::(pst,ops')::(S'++(TT'++rest))) →
      W.DatIn TT' (.ref bv) dd→TX<+:TX'→TX'.length≤TX.length+6→FN<+:FN'→FN'.length≤FN.length+3→E (.ref e) {s with heap:=h',toks:=tk'}),
   wpAny (model PR w) (ktrTop dp un gd cn cs L a ccd cl outer) (PySem.call (.ref f) [.ref mad]) Q E s
theorem Zcw {c:Bool}:ZF c .v:=by cases c <;> trivial
theorem Zg8 {q:Addr×Obj}{fix rest:List (Addr×Obj)}(h:∀ p∈fix,p∈rest):∀ p∈fix,p∈q::rest:=fun p hp =>.tail _ (h p hp)
theorem Zhn {c' f:Nat}{deed:Int}{tg:Tgt}{chars mv:Bool}{R TR fix:List (Addr×Obj)}{sym sd tl an fl fn n:Nat}{jy:Hs}{js:Hs}{hp stk trl s_n:Nat}{sto stod:Nat}{jf:Hs}{inp outp files alia actn pst f_n:Nat}{ft8:Tok}{flo flod:Nat}{nxt:Int}{jm:Hs}{mcode xl grd rts bgs dbs m_n:Nat}{mad mmd:Nat}{jd:Hs}{oprs flgs d_n:Nat}{dbd:Nat}{sn pj cj ce:Nat}{oin oac:Obj}{kin kac:List (Int×Value)}{act:Str}{cv:List Value}{codes:List Int}{ta:Tok}{w:World}
   (hdeed:deed=bif chars then bif mv then 0 else 1 else bif mv then 2 else 3)(hm1:(sym,instObj 154 sd)∈fix)(hm2:(sd,Zq jy tl an fl fn n)∈fix)(ms1:(sto,instObj 430 stod)∈fix)(ms2:(stod,Zy js sym hp stk trl s_n)∈fix)(mm1:(mad,instObj 1104 mmd)∈fix)(mm2:(mmd,ZB jm sym mcode sto xl grd rts bgs dbs m_n)∈fix)(md1:(dbs,instObj 1083 dbd)∈fix)(md2:(dbd,Z8 jd flo oprs flgs d_n)∈fix)(mf1:(flo,instObj 541 flod)∈fix)(mf2:(flod,ZL jf inp outp files alia actn pst nxt ft8 f_n)∈fix)
   (hR:YC c' f deed sn R)(hTR:Yn c' TR)(hsR:∀ p∈R,p∈fix)(hsT:∀ p∈TR,p∈fix)
   (mi:(inp,oin)∈fix)(hi:oin.IsDictOf (intKind PR w) kin)(hv:valueAt kin (sn:Int)=some (.ref pj))
   (mc:(cj,W.listOf cv.toArray ce)∈fix)(hc:IntsAre cv codes)(hlen:codes.length<50)(hnn:∀ c∈codes,0≤c)
   (lop:(pst==sysModules)=false)(mac:(actn,oac)∈fix)(hac:oac.IsDictOf (intKind PR w) kac)(hva:valueAt kac (sn:Int)=some (.str act ta))(loa:(actn==sysModules)=false) :
   PSpec w fix tg chars mv f mad sn tl an fl fn hp xl pj cj pst act codes where
  call:=by
    intro p loose mean mg mb dp un gd cn cs a ccd cl outer A₀ base h₀ L m s Q E c he xe pe idx hv' xv t1 t2 ti ops kps past TX FN S news rest B F X T hk C N P hS D hfix mc' hsz mx hx hit hidx hps hpb hpz hb hb' hdp hun retv retc exc
    have hsm:Zl hv':=by unfold Zl;tb_start
    have hidx':idx<1000:=by tb_start
    have pR:∀ {hq:Addr×Obj} {Z:List (Addr×Obj)},Tk (hq::Z) news rest→Tk Z news (hq::rest):=fun h=>⟨h.perm.trans List.perm_middle.symm⟩
    have bk:∀ {hq x y:Addr×Obj} {S':List (Addr×Obj)},Tk (hq::x::y::(S'++rest)) (x::y::(S'++hq::rest)) []:=fun {hq x y S'}=>⟨by
      rw [List.append_nil]
      exact (List.perm_middle (a:=hq) (l₁:=x::y::S') (l₂:=rest))⟩
    have bk2:∀ {dq hq x y:Addr×Obj} {S' TT':List (Addr×Obj)},Tk (dq::hq::x::y::(S'++(TT'++rest))) (dq::x::y::(S'++(TT'++hq::rest))) []:=fun {dq hq x y S' TT'}=>⟨by
      rw [List.append_nil]
      refine List.Perm.cons dq ?_
      have:=List.perm_middle (a:=hq) (l₁:=x::y::(S'++TT')) (l₂:=rest)
      simpa using this⟩
    subst hdeed
    cases tg with
    | v =>
      cases chars with
      | true =>
        cases mv with
        | true=>exact WH B F X T hk N D C hR hTR (fun q hq=>(List.Perm.mem_iff P.perm).mpr (List.mem_append_right _ (hfix _ (hsR q hq)))) (fun q hq=>(List.Perm.mem_iff P.perm).mpr (List.mem_append_right _ (hfix _ (hsT q hq)))) hdp hun (fun B F X T hk N D hdp hun ret8 exc8=>Wo (mv:=true) B F X T hk (N:=N) (D:=D) (P:=P) (mc':=mc') (q0:=by simp) (q1:=by tb_start) (mx:=mx) (hm1:=(hfix _ hm1)) (hm2:=(hfix _ hm2)) (ms1:=(hfix _ ms1)) (ms2:=(hfix _ ms2)) (mm1:=(hfix _ mm1)) (mm2:=(hfix _ mm2)) (md1:=(hfix _ md1)) (md2:=(hfix _ md2)) (mf1:=(hfix _ mf1)) (mf2:=(hfix _ mf2)) (mi:=(hfix _ mi)) (mc:=(hfix _ mc)) (mac:=(hfix _ mac)) (hS:=hS) (hsz:=by unfold Zl;rw [Array.size_push];tb_start) (hx:=hx) (hi:=hi) (hv:=hv) (hc:=hc) (hlen:=hlen) (hidx:=hidx') (hnn:=hnn) (hps:=hps) (hpb:=hpb) (lop:=lop) (hpz:=hpz) (hac:=hac) (hva:=hva) (loa:=loa) (hb:=hb) (hb':=hb') (hdp:=hdp) (hun:=hun) (ret:=fun c2 v t3 t4 ti' pe' kps' ops' TX' S' h' tk' b0 b1 b2 b3 b4 b5 F8 N8 D8=>ret8 _ _ _ _ (fun h' tk' F8 N8 D8=>(retv rfl) c2 v t3 t4 ti' pe' kps' ops' TX' S' h' tk' b0 b1 b2 b3 b4 b5 F8 N8 D8) F8 N8 D8) (exc:=fun e d bv hsh tk ti' pe' idx' past' kps' ops' TX' FN' S' TT' dd g' h' tk' b0 b1 b2 F8 R8 U8 D8 b7 b8 b9 b10 b11=>exc8 _ _ _ _ _ _ (fun g' h' tk' F8 R8 U8 D8=>(exc) e d bv hsh tk ti' pe' idx' past' kps' ops' TX' FN' S' TT' dd g' h' tk' b0 b1 b2 F8 R8 U8 D8 b7 b8 b9 b10 b11) F8 R8 U8 D8))
        | false=>exact WG B F X T hk N D C hR hTR (fun q hq=>(List.Perm.mem_iff P.perm).mpr (List.mem_append_right _ (hfix _ (hsR q hq)))) (fun q hq=>(List.Perm.mem_iff P.perm).mpr (List.mem_append_right _ (hfix _ (hsT q hq)))) hdp hun (fun B F X T hk N D hdp hun ret8 exc8=>Wo (mv:=false) B F X T hk (N:=N) (D:=D) (P:=P) (mc':=mc') (q0:=by simp) (q1:=by tb_start) (mx:=mx) (hm1:=(hfix _ hm1)) (hm2:=(hfix _ hm2)) (ms1:=(hfix _ ms1)) (ms2:=(hfix _ ms2)) (mm1:=(hfix _ mm1)) (mm2:=(hfix _ mm2)) (md1:=(hfix _ md1)) (md2:=(hfix _ md2)) (mf1:=(hfix _ mf1)) (mf2:=(hfix _ mf2)) (mi:=(hfix _ mi)) (mc:=(hfix _ mc)) (mac:=(hfix _ mac)) (hS:=hS) (hsz:=by unfold Zl;rw [Array.size_push];tb_start) (hx:=hx) (hi:=hi) (hv:=hv) (hc:=hc) (hlen:=hlen) (hidx:=hidx') (hnn:=hnn) (hps:=hps) (hpb:=hpb) (lop:=lop) (hpz:=hpz) (hac:=hac) (hva:=hva) (loa:=loa) (hb:=hb) (hb':=hb') (hdp:=hdp) (hun:=hun) (ret:=fun c2 v t3 t4 ti' pe' kps' ops' TX' S' h' tk' b0 b1 b2 b3 b4 b5 F8 N8 D8=>ret8 _ _ _ _ (fun h' tk' F8 N8 D8=>(retv rfl) c2 v t3 t4 ti' pe' kps' ops' TX' S' h' tk' b0 b1 b2 b3 b4 b5 F8 N8 D8) F8 N8 D8) (exc:=fun e d bv hsh tk ti' pe' idx' past' kps' ops' TX' FN' S' TT' dd g' h' tk' b0 b1 b2 F8 R8 U8 D8 b7 b8 b9 b10 b11=>exc8 _ _ _ _ _ _ (fun g' h' tk' F8 R8 U8 D8=>(exc) e d bv hsh tk ti' pe' idx' past' kps' ops' TX' FN' S' TT' dd g' h' tk' b0 b1 b2 F8 R8 U8 D8 b7 b8 b9 b10 b11) F8 R8 U8 D8))
      | false =>
        cases mv with
        | true=>exact WF B F X T hk N D C hR hTR (fun q hq=>(List.Perm.mem_iff P.perm).mpr (List.mem_append_right _ (hfix _ (hsR q hq)))) (fun q hq=>(List.Perm.mem_iff P.perm).mpr (List.mem_append_right _ (hfix _ (hsT q hq)))) hdp hun (fun B F X T hk N D hdp hun ret8 exc8=>Wh (mv:=true) B F X T hk (N:=N) (D:=D) (P:=P) (mc':=mc') (q0:=by simp) (q1:=by tb_start) (mx:=mx) (hm1:=(hfix _ hm1)) (hm2:=(hfix _ hm2)) (ms1:=(hfix _ ms1)) (ms2:=(hfix _ ms2)) (mm1:=(hfix _ mm1)) (mm2:=(hfix _ mm2)) (md1:=(hfix _ md1)) (md2:=(hfix _ md2)) (mf1:=(hfix _ mf1)) (mf2:=(hfix _ mf2)) (mi:=(hfix _ mi)) (mc:=(hfix _ mc)) (mac:=(hfix _ mac)) (hS:=hS) (hsz:=by unfold Zl;rw [Array.size_push];tb_start) (hx:=hx) (hi:=hi) (hv:=hv) (hc:=hc) (hlen:=hlen) (hidx:=hidx') (hnn:=hnn) (hps:=hps) (hpb:=hpb) (lop:=lop) (hpz:=hpz) (hac:=hac) (hva:=hva) (loa:=loa) (hb:=hb) (hb':=hb') (hdp:=hdp) (hun:=hun) (ret:=fun c2 v t3 t4 ti' pe' kps' ops' TX' S' h' tk' b0 b1 b2 b3 b4 b5 F8 N8 D8=>ret8 _ _ _ _ (fun h' tk' F8 N8 D8=>(retv rfl) c2 v t3 t4 ti' pe' kps' ops' TX' S' h' tk' b0 b1 b2 b3 b4 b5 F8 N8 D8) F8 N8 D8) (exc:=fun e d bv hsh tk ti' pe' idx' past' kps' ops' TX' FN' S' TT' dd g' h' tk' b0 b1 b2 F8 R8 U8 D8 b7 b8 b9 b10 b11=>exc8 _ _ _ _ _ _ (fun g' h' tk' F8 R8 U8 D8=>(exc) e d bv hsh tk ti' pe' idx' past' kps' ops' TX' FN' S' TT' dd g' h' tk' b0 b1 b2 F8 R8 U8 D8 b7 b8 b9 b10 b11) F8 R8 U8 D8))
        | false=>exact WE B F X T hk N D C hR hTR (fun q hq=>(List.Perm.mem_iff P.perm).mpr (List.mem_append_right _ (hfix _ (hsR q hq)))) (fun q hq=>(List.Perm.mem_iff P.perm).mpr (List.mem_append_right _ (hfix _ (hsT q hq)))) hdp hun (fun B F X T hk N D hdp hun ret8 exc8=>Wh (mv:=false) B F X T hk (N:=N) (D:=D) (P:=P) (mc':=mc') (q0:=by simp) (q1:=by tb_start) (mx:=mx) (hm1:=(hfix _ hm1)) (hm2:=(hfix _ hm2)) (ms1:=(hfix _ ms1)) (ms2:=(hfix _ ms2)) (mm1:=(hfix _ mm1)) (mm2:=(hfix _ mm2)) (md1:=(hfix _ md1)) (md2:=(hfix _ md2)) (mf1:=(hfix _ mf1)) (mf2:=(hfix _ mf2)) (mi:=(hfix _ mi)) (mc:=(hfix _ mc)) (mac:=(hfix _ mac)) (hS:=hS) (hsz:=by unfold Zl;rw [Array.size_push];tb_start) (hx:=hx) (hi:=hi) (hv:=hv) (hc:=hc) (hlen:=hlen) (hidx:=hidx') (hnn:=hnn) (hps:=hps) (hpb:=hpb) (lop:=lop) (hpz:=hpz) (hac:=hac) (hva:=hva) (loa:=loa) (hb:=hb) (hb':=hb') (hdp:=hdp) (hun:=hun) (ret:=fun c2 v t3 t4 ti' pe' kps' ops' TX' S' h' tk' b0 b1 b2 b3 b4 b5 F8 N8 D8=>ret8 _ _ _ _ (fun h' tk' F8 N8 D8=>(retv rfl) c2 v t3 t4 ti' pe' kps' ops' TX' S' h' tk' b0 b1 b2 b3 b4 b5 F8 N8 D8) F8 N8 D8) (exc:=fun e d bv hsh tk ti' pe' idx' past' kps' ops' TX' FN' S' TT' dd g' h' tk' b0 b1 b2 F8 R8 U8 D8 b7 b8 b9 b10 b11=>exc8 _ _ _ _ _ _ (fun g' h' tk' F8 R8 U8 D8=>(exc) e d bv hsh tk ti' pe' idx' past' kps' ops' TX' FN' S' TT' dd g' h' tk' b0 b1 b2 F8 R8 U8 D8 b7 b8 b9 b10 b11) F8 R8 U8 D8))
    | a i x =>
      cases chars with
      | true =>
        cases mv with
        | true=>exact WH B F X T hk N D C hR hTR (fun q hq=>(List.Perm.mem_iff P.perm).mpr (List.mem_append_right _ (hfix _ (hsR q hq)))) (fun q hq=>(List.Perm.mem_iff P.perm).mpr (List.mem_append_right _ (hfix _ (hsT q hq)))) hdp hun (fun B F X T hk N D hdp hun ret8 exc8=>Wq (mv:=true) B F X T hk (N:=N) (D:=D) (P:=pR P) (mc' :=.tail _ mc') (mh :=.head _) (hit:=hit.1) (hxl:=hit.2) (mx :=.tail _ mx) (hm1:=(.tail _ (hfix _ hm1))) (hm2:=(.tail _ (hfix _ hm2))) (ms1:=(.tail _ (hfix _ ms1))) (ms2:=(.tail _ (hfix _ ms2))) (mm1:=(.tail _ (hfix _ mm1))) (mm2:=(.tail _ (hfix _ mm2))) (md1:=(.tail _ (hfix _ md1))) (md2:=(.tail _ (hfix _ md2))) (mf1:=(.tail _ (hfix _ mf1))) (mf2:=(.tail _ (hfix _ mf2))) (mi:=(.tail _ (hfix _ mi))) (mc:=(.tail _ (hfix _ mc))) (mac:=(.tail _ (hfix _ mac))) (hS:=hS) (hsz:=hsm) (hx:=hx) (hi:=hi) (hv:=hv) (hc:=hc) (hlen:=hlen) (hidx:=hidx') (hnn:=hnn) (hps:=hps) (hpb:=hpb) (lop:=lop) (hpz:=hpz) (hac:=hac) (hva:=hva) (loa:=loa) (hb:=hb) (hb':=hb') (hdp:=hdp) (hun:=hun) (ret:=fun b v ti' pe' kps' ops' TX' S' h' tk' g1 g2 g3 g4 g5 g6 g7 g8 F' N' D'=>ret8 _ _ _ _ (fun h' tk' F' N' D'=>retc (by intro q;cases q) b v ti' pe' kps' ops' TX' S' h' tk' g1 g2 g3 (by rw [g4];unfold J9;simp [V1]) g5 g6 g7 g8 F' (Zc N' bk) (Zb D' bk)) F' N' D') (exc:=fun e d bv hsh tk ti' pe' idx' past' kps' ops' TX' FN' S' TT' dd g' h' tk' g1 g2 g3 F' R' U' D' x0 x1 x2 x3 x4=>exc8 _ _ _ _ _ _ (fun g' h' tk' F' R' U' D'=>exc e d bv hsh tk ti' pe' idx' past' kps' ops' TX' FN' S' TT' dd g' h' tk' g1 g2 g3 F' (Zi R' bk2) U' (Zb D' bk2) x0 x1 x2 x3 x4) F' R' U' D'))
        | false=>exact WG B F X T hk N D C hR hTR (fun q hq=>(List.Perm.mem_iff P.perm).mpr (List.mem_append_right _ (hfix _ (hsR q hq)))) (fun q hq=>(List.Perm.mem_iff P.perm).mpr (List.mem_append_right _ (hfix _ (hsT q hq)))) hdp hun (fun B F X T hk N D hdp hun ret8 exc8=>Wq (mv:=false) B F X T hk (N:=N) (D:=D) (P:=pR P) (mc' :=.tail _ mc') (mh :=.head _) (hit:=hit.1) (hxl:=hit.2) (mx :=.tail _ mx) (hm1:=(.tail _ (hfix _ hm1))) (hm2:=(.tail _ (hfix _ hm2))) (ms1:=(.tail _ (hfix _ ms1))) (ms2:=(.tail _ (hfix _ ms2))) (mm1:=(.tail _ (hfix _ mm1))) (mm2:=(.tail _ (hfix _ mm2))) (md1:=(.tail _ (hfix _ md1))) (md2:=(.tail _ (hfix _ md2))) (mf1:=(.tail _ (hfix _ mf1))) (mf2:=(.tail _ (hfix _ mf2))) (mi:=(.tail _ (hfix _ mi))) (mc:=(.tail _ (hfix _ mc))) (mac:=(.tail _ (hfix _ mac))) (hS:=hS) (hsz:=hsm) (hx:=hx) (hi:=hi) (hv:=hv) (hc:=hc) (hlen:=hlen) (hidx:=hidx') (hnn:=hnn) (hps:=hps) (hpb:=hpb) (lop:=lop) (hpz:=hpz) (hac:=hac) (hva:=hva) (loa:=loa) (hb:=hb) (hb':=hb') (hdp:=hdp) (hun:=hun) (ret:=fun b v ti' pe' kps' ops' TX' S' h' tk' g1 g2 g3 g4 g5 g6 g7 g8 F' N' D'=>ret8 _ _ _ _ (fun h' tk' F' N' D'=>retc (by intro q;cases q) b v ti' pe' kps' ops' TX' S' h' tk' g1 g2 g3 (by rw [g4];unfold J9;simp [V1]) g5 g6 g7 g8 F' (Zc N' bk) (Zb D' bk)) F' N' D') (exc:=fun e d bv hsh tk ti' pe' idx' past' kps' ops' TX' FN' S' TT' dd g' h' tk' g1 g2 g3 F' R' U' D' x0 x1 x2 x3 x4=>exc8 _ _ _ _ _ _ (fun g' h' tk' F' R' U' D'=>exc e d bv hsh tk ti' pe' idx' past' kps' ops' TX' FN' S' TT' dd g' h' tk' g1 g2 g3 F' (Zi R' bk2) U' (Zb D' bk2) x0 x1 x2 x3 x4) F' R' U' D'))
      | false =>
        cases mv with
        | true=>exact WF B F X T hk N D C hR hTR (fun q hq=>(List.Perm.mem_iff P.perm).mpr (List.mem_append_right _ (hfix _ (hsR q hq)))) (fun q hq=>(List.Perm.mem_iff P.perm).mpr (List.mem_append_right _ (hfix _ (hsT q hq)))) hdp hun (fun B F X T hk N D hdp hun ret8 exc8=>Wj (mv:=true) B F X T hk (N:=N) (D:=D) (P:=pR P) (mc' :=.tail _ mc') (mh :=.head _) (hit:=hit.1) (mx :=.tail _ mx) (hm1:=(.tail _ (hfix _ hm1))) (hm2:=(.tail _ (hfix _ hm2))) (ms1:=(.tail _ (hfix _ ms1))) (ms2:=(.tail _ (hfix _ ms2))) (mm1:=(.tail _ (hfix _ mm1))) (mm2:=(.tail _ (hfix _ mm2))) (md1:=(.tail _ (hfix _ md1))) (md2:=(.tail _ (hfix _ md2))) (mf1:=(.tail _ (hfix _ mf1))) (mf2:=(.tail _ (hfix _ mf2))) (mi:=(.tail _ (hfix _ mi))) (mc:=(.tail _ (hfix _ mc))) (mac:=(.tail _ (hfix _ mac))) (hS:=hS) (hsz:=hsm) (hx:=hx) (hi:=hi) (hv:=hv) (hc:=hc) (hlen:=hlen) (hidx:=hidx') (hnn:=hnn) (hps:=hps) (hpb:=hpb) (lop:=lop) (hpz:=hpz) (hac:=hac) (hva:=hva) (loa:=loa) (hb:=hb) (hb':=hb') (hdp:=hdp) (hun:=hun) (exc:=fun e d bv hsh tk ti' pe' idx' past' kps' ops' TX' FN' S' TT' dd g' h' tk' g1 g2 g3 F' R' U' D' x0 x1 x2 x3 x4=>exc8 _ _ _ _ _ _ (fun g' h' tk' F' R' U' D'=>exc e d bv hsh tk ti' pe' idx' past' kps' ops' TX' FN' S' TT' dd g' h' tk' g1 g2 g3 F' (Zi R' bk2) U' (Zb D' bk2) x0 x1 x2 x3 x4) F' R' U' D'))
        | false=>exact WE B F X T hk N D C hR hTR (fun q hq=>(List.Perm.mem_iff P.perm).mpr (List.mem_append_right _ (hfix _ (hsR q hq)))) (fun q hq=>(List.Perm.mem_iff P.perm).mpr (List.mem_append_right _ (hfix _ (hsT q hq)))) hdp hun (fun B F X T hk N D hdp hun ret8 exc8=>Wj (mv:=false) B F X T hk (N:=N) (D:=D) (P:=pR P) (mc' :=.tail _ mc') (mh :=.head _) (hit:=hit.1) (mx :=.tail _ mx) (hm1:=(.tail _ (hfix _ hm1))) (hm2:=(.tail _ (hfix _ hm2))) (ms1:=(.tail _ (hfix _ ms1))) (ms2:=(.tail _ (hfix _ ms2))) (mm1:=(.tail _ (hfix _ mm1))) (mm2:=(.tail _ (hfix _ mm2))) (md1:=(.tail _ (hfix _ md1))) (md2:=(.tail _ (hfix _ md2))) (mf1:=(.tail _ (hfix _ mf1))) (mf2:=(.tail _ (hfix _ mf2))) (mi:=(.tail _ (hfix _ mi))) (mc:=(.tail _ (hfix _ mc))) (mac:=(.tail _ (hfix _ mac))) (hS:=hS) (hsz:=hsm) (hx:=hx) (hi:=hi) (hv:=hv) (hc:=hc) (hlen:=hlen) (hidx:=hidx') (hnn:=hnn) (hps:=hps) (hpb:=hpb) (lop:=lop) (hpz:=hpz) (hac:=hac) (hva:=hva) (loa:=loa) (hb:=hb) (hb':=hb') (hdp:=hdp) (hun:=hun) (exc:=fun e d bv hsh tk ti' pe' idx' past' kps' ops' TX' FN' S' TT' dd g' h' tk' g1 g2 g3 F' R' U' D' x0 x1 x2 x3 x4=>exc8 _ _ _ _ _ _ (fun g' h' tk' F' R' U' D'=>exc e d bv hsh tk ti' pe' idx' past' kps' ops' TX' FN' S' TT' dd g' h' tk' g1 g2 g3 F' (Zi R' bk2) U' (Zb D' bk2) x0 x1 x2 x3 x4) F' R' U' D'))
    | i k =>
      cases chars with
      | true =>
        cases mv with
        | true=>exact WH B F X T hk N D C hR hTR (fun q hq=>(List.Perm.mem_iff P.perm).mpr (List.mem_append_right _ (hfix _ (hsR q hq)))) (fun q hq=>(List.Perm.mem_iff P.perm).mpr (List.mem_append_right _ (hfix _ (hsT q hq)))) hdp hun (fun B F X T hk N D hdp hun ret8 exc8=>Wp (mv:=true) B F X T hk (N:=N) (D:=D) (P:=pR P) (mc' :=.tail _ mc') (mh :=.head _) (mx :=.tail _ mx) (hm1:=(.tail _ (hfix _ hm1))) (hm2:=(.tail _ (hfix _ hm2))) (ms1:=(.tail _ (hfix _ ms1))) (ms2:=(.tail _ (hfix _ ms2))) (mm1:=(.tail _ (hfix _ mm1))) (mm2:=(.tail _ (hfix _ mm2))) (md1:=(.tail _ (hfix _ md1))) (md2:=(.tail _ (hfix _ md2))) (mf1:=(.tail _ (hfix _ mf1))) (mf2:=(.tail _ (hfix _ mf2))) (mi:=(.tail _ (hfix _ mi))) (mc:=(.tail _ (hfix _ mc))) (mac:=(.tail _ (hfix _ mac))) (hS:=hS) (hsz:=hsm) (hx:=hx) (hi:=hi) (hv:=hv) (hc:=hc) (hlen:=hlen) (hidx:=hidx') (hnn:=hnn) (hps:=hps) (hpb:=hpb) (lop:=lop) (hpz:=hpz) (hac:=hac) (hva:=hva) (loa:=loa) (hb:=hb) (hb':=hb') (hdp:=hdp) (hun:=hun) (exc:=fun e d bv hsh tk ti' pe' idx' past' kps' ops' TX' FN' S' TT' dd g' h' tk' g1 g2 g3 F' R' U' D' x0 x1 x2 x3 x4=>exc8 _ _ _ _ _ _ (fun g' h' tk' F' R' U' D'=>exc e d bv hsh tk ti' pe' idx' past' kps' ops' TX' FN' S' TT' dd g' h' tk' g1 g2 g3 F' (Zi R' bk2) U' (Zb D' bk2) x0 x1 x2 x3 x4) F' R' U' D'))
        | false=>exact WG B F X T hk N D C hR hTR (fun q hq=>(List.Perm.mem_iff P.perm).mpr (List.mem_append_right _ (hfix _ (hsR q hq)))) (fun q hq=>(List.Perm.mem_iff P.perm).mpr (List.mem_append_right _ (hfix _ (hsT q hq)))) hdp hun (fun B F X T hk N D hdp hun ret8 exc8=>Wp (mv:=false) B F X T hk (N:=N) (D:=D) (P:=pR P) (mc' :=.tail _ mc') (mh :=.head _) (mx :=.tail _ mx) (hm1:=(.tail _ (hfix _ hm1))) (hm2:=(.tail _ (hfix _ hm2))) (ms1:=(.tail _ (hfix _ ms1))) (ms2:=(.tail _ (hfix _ ms2))) (mm1:=(.tail _ (hfix _ mm1))) (mm2:=(.tail _ (hfix _ mm2))) (md1:=(.tail _ (hfix _ md1))) (md2:=(.tail _ (hfix _ md2))) (mf1:=(.tail _ (hfix _ mf1))) (mf2:=(.tail _ (hfix _ mf2))) (mi:=(.tail _ (hfix _ mi))) (mc:=(.tail _ (hfix _ mc))) (mac:=(.tail _ (hfix _ mac))) (hS:=hS) (hsz:=hsm) (hx:=hx) (hi:=hi) (hv:=hv) (hc:=hc) (hlen:=hlen) (hidx:=hidx') (hnn:=hnn) (hps:=hps) (hpb:=hpb) (lop:=lop) (hpz:=hpz) (hac:=hac) (hva:=hva) (loa:=loa) (hb:=hb) (hb':=hb') (hdp:=hdp) (hun:=hun) (exc:=fun e d bv hsh tk ti' pe' idx' past' kps' ops' TX' FN' S' TT' dd g' h' tk' g1 g2 g3 F' R' U' D' x0 x1 x2 x3 x4=>exc8 _ _ _ _ _ _ (fun g' h' tk' F' R' U' D'=>exc e d bv hsh tk ti' pe' idx' past' kps' ops' TX' FN' S' TT' dd g' h' tk' g1 g2 g3 F' (Zi R' bk2) U' (Zb D' bk2) x0 x1 x2 x3 x4) F' R' U' D'))
      | false =>
        cases mv with
        | true=>exact WF B F X T hk N D C hR hTR (fun q hq=>(List.Perm.mem_iff P.perm).mpr (List.mem_append_right _ (hfix _ (hsR q hq)))) (fun q hq=>(List.Perm.mem_iff P.perm).mpr (List.mem_append_right _ (hfix _ (hsT q hq)))) hdp hun (fun B F X T hk N D hdp hun ret8 exc8=>Wi (mv:=true) B F X T hk (N:=N) (D:=D) (P:=pR P) (mc' :=.tail _ mc') (mh :=.head _) (mx :=.tail _ mx) (hm1:=(.tail _ (hfix _ hm1))) (hm2:=(.tail _ (hfix _ hm2))) (ms1:=(.tail _ (hfix _ ms1))) (ms2:=(.tail _ (hfix _ ms2))) (mm1:=(.tail _ (hfix _ mm1))) (mm2:=(.tail _ (hfix _ mm2))) (md1:=(.tail _ (hfix _ md1))) (md2:=(.tail _ (hfix _ md2))) (mf1:=(.tail _ (hfix _ mf1))) (mf2:=(.tail _ (hfix _ mf2))) (mi:=(.tail _ (hfix _ mi))) (mc:=(.tail _ (hfix _ mc))) (mac:=(.tail _ (hfix _ mac))) (hS:=hS) (hsz:=hsm) (hx:=hx) (hi:=hi) (hv:=hv) (hc:=hc) (hlen:=hlen) (hidx:=hidx') (hnn:=hnn) (hps:=hps) (hpb:=hpb) (lop:=lop) (hpz:=hpz) (hac:=hac) (hva:=hva) (loa:=loa) (hb:=hb) (hb':=hb') (hdp:=hdp) (hun:=hun) (ret:=fun b v ti' pe' kps' ops' TX' S' h' tk' g1 g2 g3 g4 g5 g6 g7 g8 F' N' D'=>ret8 _ _ _ _ (fun h' tk' F' N' D'=>retc (by intro q;cases q) b v ti' pe' kps' ops' TX' S' h' tk' g1 g2 g3 (by rw [g4];unfold J9;simp [V1]) g5 g6 g7 g8 F' (Zc N' bk) (Zb D' bk)) F' N' D') (exc:=fun e d bv hsh tk ti' pe' idx' past' kps' ops' TX' FN' S' TT' dd g' h' tk' g1 g2 g3 F' R' U' D' x0 x1 x2 x3 x4=>exc8 _ _ _ _ _ _ (fun g' h' tk' F' R' U' D'=>exc e d bv hsh tk ti' pe' idx' past' kps' ops' TX' FN' S' TT' dd g' h' tk' g1 g2 g3 F' (Zi R' bk2) U' (Zb D' bk2) x0 x1 x2 x3 x4) F' R' U' D'))
        | false=>exact WE B F X T hk N D C hR hTR (fun q hq=>(List.Perm.mem_iff P.perm).mpr (List.mem_append_right _ (hfix _ (hsR q hq)))) (fun q hq=>(List.Perm.mem_iff P.perm).mpr (List.mem_append_right _ (hfix _ (hsT q hq)))) hdp hun (fun B F X T hk N D hdp hun ret8 exc8=>Wi (mv:=false) B F X T hk (N:=N) (D:=D) (P:=pR P) (mc' :=.tail _ mc') (mh :=.head _) (mx :=.tail _ mx) (hm1:=(.tail _ (hfix _ hm1))) (hm2:=(.tail _ (hfix _ hm2))) (ms1:=(.tail _ (hfix _ ms1))) (ms2:=(.tail _ (hfix _ ms2))) (mm1:=(.tail _ (hfix _ mm1))) (mm2:=(.tail _ (hfix _ mm2))) (md1:=(.tail _ (hfix _ md1))) (md2:=(.tail _ (hfix _ md2))) (mf1:=(.tail _ (hfix _ mf1))) (mf2:=(.tail _ (hfix _ mf2))) (mi:=(.tail _ (hfix _ mi))) (mc:=(.tail _ (hfix _ mc))) (mac:=(.tail _ (hfix _ mac))) (hS:=hS) (hsz:=hsm) (hx:=hx) (hi:=hi) (hv:=hv) (hc:=hc) (hlen:=hlen) (hidx:=hidx') (hnn:=hnn) (hps:=hps) (hpb:=hpb) (lop:=lop) (hpz:=hpz) (hac:=hac) (hva:=hva) (loa:=loa) (hb:=hb) (hb':=hb') (hdp:=hdp) (hun:=hun) (ret:=fun b v ti' pe' kps' ops' TX' S' h' tk' g1 g2 g3 g4 g5 g6 g7 g8 F' N' D'=>ret8 _ _ _ _ (fun h' tk' F' N' D'=>retc (by intro q;cases q) b v ti' pe' kps' ops' TX' S' h' tk' g1 g2 g3 (by rw [g4];unfold J9;simp [V1]) g5 g6 g7 g8 F' (Zc N' bk) (Zb D' bk)) F' N' D') (exc:=fun e d bv hsh tk ti' pe' idx' past' kps' ops' TX' FN' S' TT' dd g' h' tk' g1 g2 g3 F' R' U' D' x0 x1 x2 x3 x4=>exc8 _ _ _ _ _ _ (fun g' h' tk' F' R' U' D'=>exc e d bv hsh tk ti' pe' idx' past' kps' ops' TX' FN' S' TT' dd g' h' tk' g1 g2 g3 F' (Zi R' bk2) U' (Zb D' bk2) x0 x1 x2 x3 x4) F' R' U' D'))
theorem Znk:True:=by
  walk_at "RST"
  trivial
section
variable {prog:Program}{w:World}{A₀ A:Around}{s:Shared}{base h₀:Heap}{L:Addr}{m:Str→Option Value}{env:Env}{news:List (Addr×Obj)}{K:Frag}{p:Program}{loose:List Str}{mean:ExcName→Option Value}{mg mb:Str→Option Value}
theorem Ze2 {R:Result→Shared→Prop}(B:Below A₀ base [] h₀)(F:Fr h₀ L s.heap m)(N:News h₀ L s.heap news)(hA:A.frames=some [env])(hf:env.frame=some L)(hke:env.scope.kind = .function) :
    Fr h₀ L (hideAll s.heap (news.map (·.1))) m∧Below A base [env] (hideAll s.heap (news.map (·.1)))∧h₀.StaysIn (hideAll s.heap (news.map (·.1))) ∧
      ∀ v s',LeaveS0 ([env].filterMap (·.frame)) h₀ L m (hideAll s.heap (news.map (·.1))) R v s'→R (.ok (.ret v)) s':=by
  obtain ⟨FG,BG,st,_⟩:=groundX (R:=R) B F N hA hf hke
  refine ⟨FG,BG,st,fun v s' hl=>?_⟩
  obtain ⟨oL,es,ep,hLg,hLd,hLk,hLf⟩:=FG.ns
  obtain ⟨g',L',m',news',T',F',N',k⟩:=hl
  have nL₀:h₀.get? L=none:=kts_self F
  have mL:∀ b,b∈[env].filterMap (·.frame)→b=L:=fun b hb=>by
    rw [List.filterMap_cons,hf] at hb
    simpa using hb
  obtain ⟨sl,hs⟩:=T'.up hLg
  refine k ⟨⟨_,es,ep,F'.keep _ _ hs,hLd,hLk,hLf⟩,fun b o e=>F'.keep b o (T'.other b o (st b o e) (fun q=>by rw [mL b q,nL₀] at e;cases e)),F.above⟩ fun p hp=>⟨(N' p hp).1,fun q=>?_,?_⟩
  · have:=(N' p hp).2.2;rw [q,hs] at this;cases this
  · cases q:h₀.get? p.1 with
    | none=>rfl
    | some o =>
      obtain ⟨sl',hs'⟩:=T'.up (st _ _ q)
      have:=(N' p hp).2.2
      rw [hs'] at this
      cases this
theorem W8 {R:Result→Shared→Prop}{name qual:Str}{params:Arguments}{body:List Stmt}{scope:Scope}{dV kV doc pm cdv ct oc:Value}{an od:Option Addr}{osl:Array (Option Value)}{f:Addr}{args:Args}{binds:List (Str×Value)}
    (B:Below A₀ base [] h₀) (F:Fr h₀ L s.heap m) (X₀:K.In h₀) (N:News h₀ L s.heap news) (T:Top p loose mean mg mb h₀) (hA:A.frames=some [env]) (hf:env.frame=some L) (hke:env.scope.kind = .function)
    (ho:K.lookup f=some ⟨oc,od,.func (fnOf name qual params body scope dV kV doc pm an cdv ct),osl⟩) (hcd:codeIn K cdv qual=true) (hroom:A.depth<recursionLimit)
    (hbind:BindsTo s (fnOf name qual params body scope dV kV doc pm an cdv ct) args binds) (hkind:(binds.all fun y=>scope.names.lookup y.1==some .local||scope.names.lookup y.1==some .cell)=true)
    (hnd:((cellsFrom 0 scope.names []).map (·.1)).Nodup)
    (h:∀ g L' h₁ tk cells,Fr h₀ L g m→Fr g L' h₁ (bindL (envOfC qual scope L' f cdv).kindOf binds fun _=>none)→News g L' h₁ (cells++news) →
      CellsAre (bindC (envOfC qual scope L' f cdv).kindOf binds fun _=>none) (cellsFrom (L'+1) scope.names []) cells→Below A base [env] g→K.In g→Top p loose mean mg mb g→(∀ p∈news,p.1<L') →
      wpAny (model prog w) (A.deeper (envOfC qual scope L' f cdv)) (execs body (envOfC qual scope L' f cdv))
        (fun fl s'=>LeaveS0 ([env].filterMap (·.frame)) h₀ L m g R (match fl with | .ret v=>v|_ =>.none) s')
        (fun e s'=>wpAny (model prog w) (A.deeper (envOfC qual scope L' f cdv)) (leaving (envOfC qual scope L' f cdv) e) (fun _ s''=>R (.error e) s'') (fun e' s''=>R (.error e') s'') s')
        {s with heap:=h₁,toks:=tk})
    (hco:scope.isCoroutine=false) (hgen:scope.isGenerator=false) (hk:scope.kind = .function):codeAny (model prog w) A (.call (.ref f) args) R s:=by
  obtain ⟨FG,BG,st,lv⟩:=Ze2 (R:=R) B F N hA hf hke
  refine codeAny_call_function hroom ((X₀.keeps F.keep) _ _ ho) rfl hco hgen rfl (codeRec_of (X₀.keeps F.keep) hcd) (hbind _ _ _ _ ?_)
  refine wpAny_newFunctionEnv_cells hk (kindsX hkind _) fun env' he s' x=>?_
  subst he
  refine ⟨(T.nolimit.keeps F.keep).keeps x.toInCall.keep,codeAny_func ?_⟩
  obtain ⟨h₁,tk,rfl,_⟩:=x.done
  have hk₁:=x.toInCall.keep
  obtain ⟨cells,NC,Y⟩:=Cl.news (h₀:=s.heap) (Nat.le_refl _) fun n c hm=>⟨x.cell n c (lookup_of_mem_nodup (cellsFrom_names scope.names 0 (s.heap.objs.size+1) [] [] rfl ▸ hnd) hm),x.above n c hm⟩
  refine wpAny_mono (h _ s.heap.objs.size h₁ tk cells FG ⟨x.toInCall.ns,fun b o e=>hk₁ b o (of_hideAll _ e),Nat.le_of_eq (hideAll_size _ _)⟩ (fun p hp=>?_) Y BG (X₀.keeps st) (T.keeps st) (fun p hp=>Heap.lt_size (N p hp).1)) (fun fl s' hl=>lv _ _ hl) fun _ _ y=>y
  rcases List.mem_append.mp hp with hp|hp
  · refine ⟨(NC p hp).1,(NC p hp).2.1,?_⟩
    cases q:(hideAll s.heap (news.map (·.1))).get? p.1 with
    | none=>rfl
    | some o=>have:=of_hideAll _ q;rw [(NC p hp).2.2] at this;cases this
  · exact ⟨hk₁ _ _ (N p hp).1,Nat.ne_of_lt (Heap.lt_size (N p hp).1),hideAll_none _ (List.mem_map_of_mem hp)⟩
end
theorem WM {M:Model}{A:Around}{E:Value→Shared→Prop}{s:Shared}{h₀:Heap}{L a:Addr}{m:Str→Option Value}{cn:Str}{cs:Scope}{ccd:Value}{cl:List (Str×Addr)}{news:List (Addr×Obj)}{n:Str}{pos:Pos}{Q:Unit→Shared→Prop}(F:Fr h₀ L s.heap m)(N:News h₀ L s.heap news)
    (h:∀ h' v,Fr h₀ L h' (fun x=>if x=n then v else m x)→News h₀ L h' news→Q () {s with heap:=h',toks:=s.toks+1})
    (hl:(envX cn cs L a ccd cl).kindOf n=some .local) (hk:cs.kind = .function) :
    wpAny M A (do bindName (envX cn cs L a ccd cl) n .none;unbindBehindTheSuite (envX cn cs L a ccd cl) n pos) Q E s :=
  wpAny_nameGoes_keeps hl F.ns (by show (cs.kind == .class||(cs.kind == .module&&L != mainGlobals))=false;rw [hk];rfl) fun h' v hn hs=>h h' v (F.set hn hs) (N.set hs)
theorem Zfe {w:World}{A:Around}{E:Value→Shared→Prop}{s:Shared}{h₀:Heap}{L e d bv:Nat}{m:Str→Option Value}{oe:Obj}{ws:Array Value}{hsh:Int}{tk:Tok}{news:List (Addr×Obj)}{expr:Bool}{Q:Value→Shared→Prop}(F:Fr h₀ L s.heap m)(X:(K w.params).In h₀)
    (N:News h₀ L s.heap ((e,oe)::news)) (hc:oe.cls = .ref 51) (hd:oe.dict=some d) (hw:oe.data = .fields ws) (md:(d,dictOf [⟨hsh,.str ball tk,.ref bv⟩] 1)∈news) (h:Q (.ref bv) {s with toks:=s.toks+1}) :
    wpAny (model PR w) A (getAttr (.ref e) ball expr) Q E s:=by
  refine Zcx (X.keeps F.keep) (od:=dictOf [⟨hsh,.str ball tk,.ref bv⟩] 1) ⟨(N _ (.head _)).1,hc,?_,?_⟩ ?_ rfl h
  · unfold notCls;rw [hw]
  · rw [hd];exact (N _ (.tail _ md)).1
  · with_unfolding_all rfl
theorem Zlx {w:World}{A:Around}{E:Value→Shared→Prop}{s:Shared}{t u:Tok}{Q:Value→Shared→Prop}(h:Q (.bool true) s):wpAny (model PR w) A (compareOp .Eq (.str (Zw .v) t) (.str (.ofString "v") u)) Q E s:=PyProof.Rows.eq_str (by rw [show (Zw .v==Str.ofString "v")=true by decide];exact h)
theorem Zgy {tg:Tgt}(h:tg ≠ .v):(Zw tg==Str.ofString "v")=false:=by cases tg <;> first|exact absurd rfl h|rfl
theorem Zly {w:World}{A:Around}{E:Value→Shared→Prop}{s:Shared}{t u:Tok}{tg:Tgt}{Q:Value→Shared→Prop}(hn:tg ≠ .v)(h:Q (.bool false) s):wpAny (model PR w) A (compareOp .Eq (.str (Zw tg) t) (.str (.ofString "v") u)) Q E s:=PyProof.Rows.eq_str (by rw [Zgy hn];exact h)
theorem ZbV {prog:Program}{w:World}{A:Around}{E:Value→Shared→Prop}{s:Shared}{h₀:Heap}{L l:Addr}{news:List (Addr×Obj)}{n:Nat}{u:Tok}{x:Value}{Q:Value→Shared→Prop}{value slice:PySem.Expr}(N:News h₀ L s.heap news)(hm:(l,W.listOf [x].toArray n)∈news)(h:Q x s)
    (hs:subscripted slice false (.ref l) (.int (0+((0:Nat):Int)) u)=operate [.ref l,.int (0+((0:Nat):Int)) u] (getItem (.ref l) (.int (0+((0:Nat):Int)) u)):=by with_unfolding_all rfl) (hg:∀ r,letTemporaryGo value (.ref l) r=pure ():=by intro _;with_unfolding_all rfl) :
    wpAny (model prog w) A (subscriptTail value slice (.ref l) (.int (0+((0:Nat):Int)) u)) Q E s :=
  PyProof.Rows.subscriptTail_builtin (PySem.IsL.isList (n:=n) (N _ hm).1).typeIs slot_list_getitem.lookup (UY (its:=[x].toArray) N hm (by decide) (by decide) rfl h) hs hg
theorem Zb0 {hv:Array Value}{a b:Value}:((hv.push a).setIfInBounds hv.size b)[hv.size]? = some b:=by simp
theorem Zlz {news:List (Addr×Obj)}{hp c c2 he:Nat}{hv:Array Value}{chars:Bool}{v:Int}{t1 t2 t3 t4:Tok}(a:(c,Zk (Zan .v) (V1 hv.size .v) t1 t2)∈news)(b:(c2,Zk (bif chars then 4 else 5) v t3 t4)∈news)
   (m:(hp,W.listOf ((hv.push (.ref c)).setIfInBounds hv.size (.ref c2)) he)∈news)(hs:hv.size<80000):Der news hp c c2 :=
  .bnd a b m Zb0 (by tb_start) (by cases chars <;> simp) (by cases chars <;> simp)
theorem Zbi {h₀ h:Heap}{L:Addr}{q:Addr×Obj}{l:List (Addr×Obj)}(N:News h₀ L h (q::l)):News h₀ L h l:=fun p hp=>N p (.tail _ hp)
theorem Zf0 {tg:Tgt}{hv:Array Value}{he c:Nat}(h:tg ≠ .v):hpO tg hv he c=W.listOf hv he:=by cases tg <;> first|exact absurd rfl h|rfl
theorem ZgD (tg:Tgt)(hv:Array Value)(he c:Nat):∃ hv' he',hpO tg hv he c=W.listOf hv' he'∧hv'.size≤hv.size+1:=by
  cases tg with
  | v=>exact ⟨_,_,rfl,by simp⟩
  | a i x=>exact ⟨_,_,rfl,by simp⟩
  | i k=>exact ⟨_,_,rfl,by simp⟩
theorem Znj:True:=by
  walk_at "RST"
  walk_at "G slim"
  walk_at "G dct"
  walk_at "G loop"
  trivial
section
variable {w:World}{p:Program}{loose:List Str}{mean:ExcName→Option Value}{mg mb:Str→Option Value}
   {dp un:Nat}{gd:Option (List Code)}{cn:Str}{cs:Scope}{a:Addr}{ccd:Value}{cl:List (Str×Addr)}{A₀:Around}{base h₀:Heap}{L:Addr}{m:Str→Option Value}{s:Shared}{Q E:Value→Shared→Prop}
   (B:Below A₀ base [] h₀)(F:Fr h₀ L s.heap m)(X:(K w.params).In h₀)(T:Top p loose mean mg mb h₀)(hk:cs.kind = .function)
include B F X T hk
theorem Zni:True:=by
  walk_at "G der"
  walk_at "G AskC"
  walk_at "G try"
  k_with "call ref" =>(k_here;(with_reducible show wpAny _ _ (call (Value.ref 420) _) _ _ _);k_dflt (refine' Zhk (B:=?zB) (F:=?zF) (X:=?zX) (T:=?zT) (hk:=?zhk) (N:=?zN) (hdp:=?zhdp) (hun:=?zhun) (ms1:=?zms1) (ms2:=?zms2) (mt:=?zmt) (mk:=?zmk) (hts:=?zhts) (hti:=?zhti) (lo:=?zlo) (hsz:=?zhsz) (P:=?zP) (D:=?zD) (ret:=?_);k_extra "z6";(case zmk=>with_reducible assumption);(case zP=>ktr_rel);(case zms1=>k_mem);(case zms2=>k_mem);(case zmt=>k_mem);(case zhts=>first|with_reducible assumption|k_asm);(case zhti=>first|with_reducible assumption|k_asm);(case zlo=>first|with_reducible assumption|k_asm);(case zhsz=>omega);(case zhdp=>ktr_room);(case zhun=>ktr_units);(case zD=>ktr_unf));intro c' k1' k2' h' tk' F' N' D';(try dsimp only))
  k_with "call ref" =>(k_here;(with_reducible show wpAny _ _ (call (Value.ref 940) _) _ _ _);k_dflt (refine' Zgi (B:=?zB) (F:=?zF) (X:=?zX) (T:=?zT) (hk:=?zhk) (N:=?zN) (hdp:=?zhdp) (hun:=?zhun) (mm1:=?zmm1) (mm2:=?zmm2) (mlc:=?zmlc) (hx:=?zhx) (P:=?zP) (D:=?zD) (ret:=?_);k_extra "z6";(case zhx=>with_reducible assumption);(case zP=>ktr_rel);(case zmm1=>k_mem);(case zmm2=>k_mem);(case zmlc=>k_mem);(case zhdp=>ktr_room);(case zhun=>ktr_units);(case zD=>ktr_unf));intro xv' xe' h' tk' hxs' hxc' F' N' D';(try dsimp only))
  k_with "call ref" =>(k_here;(with_reducible show wpAny _ _ (call (Value.ref 961) _) _ _ _);k_dflt (refine' Zga (B:=?zB) (F:=?zF) (X:=?zX) (T:=?zT) (hk:=?zhk) (N:=?zN) (hdp:=?zhdp) (hun:=?zhun) (mm1:=?zmm1) (mm2:=?zmm2) (ms1:=?zms1) (ms2:=?zms2) (mc2:=?zmc2) (mkc:=?zmkc) (D:=?zD) (dr:=?zdr) (ret:=?_);k_extra "z6";(case zmkc=>with_reducible assumption);(case zmm1=>k_mem);(case zmm2=>k_mem);(case zms1=>k_mem);(case zms2=>k_mem);(case zmc2=>k_mem);(case zdr=>exact Zlz (by k_mem) (by k_mem) (by k_mem) (by with_reducible assumption));(case zhdp=>ktr_room);(case zhun=>ktr_units);(case zD=>ktr_unf));intro t' k1' k2' h' tk' F' N' D';(try dsimp only))
  k_with "call ref" =>(k_here;k_dflt (refine' PSpec.call (self:=?PS) (B:=?B) (F:=?F) (X:=?X) (T:=?T) (hk:=?hk) (C:=?C) (N:=?N) (P:=?P) (hS:=?hS) (D:=?D) (hfix:=?hfix) (mc':=?mc') (hsz:=?hsz) (mx:=?mx) (hx:=?hx) (hit:=?hit) (hidx:=?hidx) (hps:=?hps) (hpb:=?hpb) (hpz:=?hpz) (hb:=?hb) (hb':=?hb') (hdp:=?hdp) (hun:=?hun) (retv:=fun htg' c2' v' t3' t4' ti' pe' kps' ops' TX' S' h' tk' hok' hres' hpt' hS' pre' len' F' N' D'=>?_) (retc:=fun htg' b' v' ti' pe' kps' ops' TX' S' h' tk' hgd' hok' hres' hb' hpt' hS' pre' len' F' N' D'=>?_) (exc:=fun e' d' bv' hsh' tk' ti' pe' idx' past' kps' ops' TX' FN' S' TT' dd' g' h' tkk' her' hpt' hS' F' R' U' D' hdd' pre' len' pref' lenf'=>?_);(case PS=>with_reducible assumption);(case B=>k_asm);(case F=>k_asm);(case X=>k_asm);(case T=>k_asm);(case hk=>first|exact rfl|assumption);(case C=>assumption);(case N=>k_asm);(case hS=>with_reducible assumption);(case hpb=>with_reducible assumption);(case hps=>with_reducible assumption);(case P=>ktr_rel);(case mc'=>k_mem);(case mx=>k_mem);(case hx=>with_reducible assumption);(case hit=>with_reducible assumption);(case hidx=>tb_start);(case hpz=>tb_start);(case hsz=>tb_start);(case hb=>tb_start);(case hb'=>tb_start);(case hfix=>exact Vy (by with_reducible assumption) (by intro q hq;k_ownIn));(case D=>ktr_unf);(case hdp=>ktr_room);(case hun=>ktr_units);all_goals (try subst htg');all_goals (try dsimp only)))
  k_with "subscriptTail" =>(k_here;(with_reducible show wpAny _ _ (subscriptTail _ _ (Value.ref _) (Value.int (0+_) _)) _ _ _);k_dflt (refine' ZbV ?N ?m ?_;(case N=>k_asm);(case m=>k_mem)))
  k_with "compareOp Eq str str" =>(k_here;(with_reducible refine Zlx ?_))
  k_with "compareOp Eq str str" =>(k_here;(with_reducible refine' Zly ?h ?_);(case h=>with_reducible assumption))
  k_with "handleBy ref" =>(k_here;k_dflt (refine' ZjF ?R ?F ?Kb ?hsm ?XB ?TB ?hx ?he1 ?hkx ?hdx ?_ ?hk ?hlo;(case R=>assumption);(case F=>k_asm);(case Kb=>k_asm);(case hsm=>assumption);(case XB=>assumption);(case TB=>assumption);(case hx=>exact rfl);(case he1=>kernel_rfl);(case hkx=>exact rfl);(case hdx=>decide);(case hk=>exact rfl);(case hlo=>exact rfl));intro h' g' oe' ws' tk' F' hoc' hod' how' N' B' X' T' KT';have NR':=Zbi N';(try dsimp only))
  k_with "getAttr ref" =>(k_here;(with_reducible show wpAny _ _ (getAttr (Value.ref _) (PySem.Str.ofString "ball") _) _ _ _);k_dflt (refine' Zfe ?F ?X ?N ?c ?d ?w ?m ?_;(case c=>assumption);(case d=>assumption);(case w=>assumption);(case F=>k_asm);(case X=>k_asm);(case N=>with_reducible exact N');(case m=>k_mem)))
  k_with "bind" =>(k_here;k_dflt (refine' WM ?F ?N ?_ ?l ?k;(case F=>k_asm);(case N=>k_asm);(case l=>exact rfl);(case k=>exact rfl));intro h' v' F' N')
  trivial
omit B F X T hk
noncomputable def JX {tg:Tgt}{chars mv:Bool}{sym tl an fl fn pst f c' pl ple tm he xe:Nat}{js:Hs}{hp stk trl s_n sto stod:Nat}{jm:Hs}{mcode xl grd rts bgs dbs m_n mad mmd kf1 kf2:Nat}{doc pm ctv:Value}{hv xv:Array Value}{t1 t2:Tok}{fix:List (Addr×Obj)}{sn pj cj pe idx:Nat}{ops:Obj}{kps:List (Int×Value)}{past:Bool}{act:Str}{codes:List Int}{ti:Tok}{TX:List Str}{FN:List (Int×Int)}{S news rest:List (Addr×Obj)}:Prop:=∀ (B:Below A₀ base [] h₀)(F:Fr h₀ L s.heap m)(X:(K w.params).In h₀)(T:Top p loose mean mg mb h₀)(hk:cs.kind = .function)(N:News h₀ L s.heap news)(D:Za news)(P:Tk ((hp,W.listOf hv he)::(xl,W.listOf xv xe)::(pj,W.listOf [.ref cj,.int idx ti].toArray pe)::(pst,ops)::S) news rest)(hS:Zh w tl an fl fn TX FN S)(mm1:(mad,instObj 1104 mmd)∈rest)(mm2:(mmd,ZB jm sym mcode sto xl grd rts bgs dbs m_n)∈rest)(ms1:(sto,instObj 430 stod)∈rest)(ms2:(stod,Zy js sym hp stk trl s_n)∈rest)(PS:PSpec w fix tg chars mv f mad sn tl an fl fn hp xl pj cj pst act codes)(hfix:∀ q∈fix,q∈rest)(C:CodeHd base 1155 1151)(XB:(K w.params).In base)(TB:Top p loose mean mg mb base)(mf0:(f,fnMade (.ofString "pure") pQ pA pB pS [(.ofString "spot",kf2),(.ofString "deed",kf1)] doc pm c' ctv)∈rest)(mt:(tm,ZO tg t1 t2)∈rest)(mpl:(pl,W.listOf [.ref tm].toArray ple)∈rest)(hsz:hv.size<80000)(hx:xv.size=1∨xv.size=2)(hit:Zaf TX tg)(hidx:idx<900)(hps:ops.IsDictOf (intKind PR w) kps)(hpb:(valueAt kps (sn:Int)).isSome=past)(hpz:kps.length<1000)(hb:TX.length<20000)(hb':FN.length<20000)(hdp:dp+150<recursionLimit)(hun:un+1000<cLine)(ret:∀ (t he' xe' pe' idx':Nat)(R:List (Addr×Obj))(rd:W.Dat)(hv' xv':Array Value)(ti':Tok)(past':Bool)(kps':List (Int×Value))(ops':Obj)(TX':List Str)(FN':List (Int×Int))(S':List (Addr×Obj))(h':Heap)(tk':Nat),
      Fr h₀ L h' m →
      News h₀ L h' (R++((hp,W.listOf hv' he')::(xl,W.listOf xv' xe')::(pj,W.listOf [.ref cj,.int idx' ti'].toArray pe')::(pst,ops')::(S'++rest)))→Za (R++((hp,W.listOf hv' he')::(xl,W.listOf xv' xe')::(pj,W.listOf [.ref cj,.int idx' ti'].toArray pe')::(pst,ops')::(S'++rest))) →
      Yl TX' FN' chars mv sn past codes idx act tg rd idx' past'→W.DatIn R (.ref t) rd→hv'.size≤hv.size+1→xv'.size=2→Zr w sn kps kps' ops' past'→Zh w tl an fl fn TX' FN' S'→TX<+:TX'→TX'.length≤TX.length+6→FN<+:FN'→FN'.length≤FN.length+3→Q (.ref t) {s with heap:=h',toks:=tk'}),
   wpAny (model PR w) (ktrTop dp un gd cn cs L a ccd cl []) (call (.ref 1128) [.ref f,.ref mad,.ref pl]) Q E s
noncomputable def VR (c:Zf):Prop:=@JX (c.c 0) (c.d 0) (c.h 0) (c.k 0) (c.i 0) (c.i 1) (c.a 0) (c.a 1) (c.l 0) (c.n 0) (c.r 0) (c.a 2) (c.p 0) (c.s 0) (c.e 0) (c.j 0) (c.j 1) (c.a 3) (c.i 2) (c.f 0) (c.g 0) (c.g 1) (c.vd 0) (c.z 0) (c.z 1) (c.a 4) (c.a 5) (c.a 6) (c.a 7) (c.a 8) (c.a 9) (c.a 10) (c.a 11) (c.a 12) (c.a 13) (c.a 14) (c.a 15) (c.a 16) (c.vj 0) (c.a 17) (c.a 18) (c.a 19) (c.a 20) (c.a 21) (c.a 22) (c.vj 1) (c.a 23) (c.a 24) (c.a 25) (c.a 26) (c.a 27) (c.a 28) (c.a 29) (c.a 30) (c.a 31) (c.a 32) (c.a 33) (c.p 1) (c.p 2) (c.p 3) (c.vc 0) (c.vc 1) (c.o 0) (c.o 1) (c.b 0) (c.a 34) (c.a 35) (c.a 36) (c.a 37) (c.a 38) (c.v 0) (c.y 0) (c.z 2) (c.n 1) (c.w 0) (c.o 2) (c.h 1) (c.t 0) (c.b 1) (c.b 2) (c.b 3)
noncomputable def JW:Zf:=ZM Zj VR
theorem ZbA:VR JW:=by
  delta VR
  exists Zf.c _ _,w
  exists Zf.d _ _,p
  exists Zf.h _ _,loose,TX
  exists Zf.k _ _,mean
  exists Zf.i _ _,mg,mb,m
  exists Zf.a _ _,dp,un,a,L,sym,tl,an,fl,fn,pst,f,c',pl,ple,tm,he,xe,hp,stk,trl,s_n,sto,stod,mcode,xl,grd,rts,bgs,dbs,m_n,mad,mmd,kf1,kf2,sn,pj,cj,pe,idx
  exists Zf.l _ _,gd
  exists Zf.n _ _,cn,act
  exists Zf.r _ _,cs
  exists Zf.p _ _,ccd,doc,pm,ctv
  exists Zf.s _ _,cl
  exists Zf.e _ _,A₀
  exists Zf.j _ _,base,h₀
  exists Zf.f _ _,s
  exists Zf.g _ _,Q,E
  exists Zf.vd _ _,tg
  exists Zf.z _ _,chars,mv,past
  exists Zf.vj _ _,js,jm
  exists Zf.vc _ _,hv,xv
  exists Zf.o _ _,t1,t2,ti
  exists Zf.b _ _,fix,S,news,rest
  exists Zf.v _ _,ops
  exists Zf.y _ _,kps
  exists Zf.w _ _,codes
  exists Zf.t _ _,FN
  intro B F X T hk N D P hS mm1 mm2 ms1 ms2 PS hfix C XB TB mf0 mt mpl hsz hx hit hidx hps hpb hpz hb hb' hdp hun ret
  delta Zy ZB at *
  have N₁:News h₀ L s.heap ((hp,W.listOf hv he)::(xl,W.listOf xv xe)::(pj,W.listOf [.ref cj,.int idx ti].toArray pe)::(pst,ops)::(S++rest)):=Ze N P.perm
  have D₁:Za ((hp,W.listOf hv he)::(xl,W.listOf xv xe)::(pj,W.listOf [.ref cj,.int idx ti].toArray pe)::(pst,ops)::(S++rest)):=D.perm P.perm
  have hMk:Y3 hp:=trivial
  have hMc:Zf5 chars:=trivial
  clear N D P
  refine wpAny_call ?_
  k_dflt (refine' W8 ?k1 ?k2 ?k3 ?k4 ?k5 ?kA ?kF ?kK ?k6 ?k7 ?k8 ?k9 ?kB ?kD ?_ ?c2 ?c3 ?c4;(case kA=>exact rfl);(case kF=>exact rfl);(case kK=>assumption);(case k1=>k_asm);(case k2=>k_asm);(case k3=>k_asm);(case k4=>k_asm);(case k5=>k_asm);(case k6=>k_is);(case k7=>k_is);(case k8=>ktr_room);(case k9=>exact BindsTo.of_eq rfl);(case kB=>exact rfl);(case kD=>decide +kernel);(case c2=>exact rfl);(case c3=>exact rfl);(case c4=>exact rfl);k_whole)
  intro g' L' h' tk' cells' FG' F' N' Y' B' X' T' l1
  k_cells Y'
  (try simp only [List.cons_append,List.nil_append] at N')
  (try dsimp only);(try k_lift B');(try k_fold)
  have D₂:=Zd N' (Ud l1 D₁)
  k_steps
  · rename News _ _ _ _=>nN
    have nD:=Zd nN (by ktr_unf)
    exact ret _ _ _ _ _ [_,_,_] (W.Dat.tuple [.str (.ofString "yes"),.list [.tuple [.str (.ofString (bif chars then "a" else "i")),.int v']]]) _ _ _ _ _ _ _ _ _ _ _ (by k_asm) (Zc nN (by ktr_rel)) (Zb nD (by ktr_rel)) (.inr ⟨Zcw,hok',rfl,rfl,v',hres',rfl⟩) (by kqd_in) (by simp) hxs' hpt' hS' pre' (by tb_start) (List.prefix_refl _) (by tb_start)
  · rename News _ _ _ _=>nN
    have nD:=Zd nN (by ktr_unf)
    rw [Zf0 htg'] at nN nD
    exact ret _ _ _ _ _ [_,_] (W.Dat.tuple [.str (.ofString "yes"),.list []]) _ _ _ _ _ _ _ _ _ _ _ (by k_asm) (Zc nN (by ktr_rel)) (Zb nD (by ktr_rel)) (.inr ⟨hgd',hok',rfl,rfl,v',hres',((ZaV htg').trans (if_pos (hb'.symm.trans ‹b'=true›))).symm⟩) (by kqd_in) (by tb_start) hxs' hpt' hS' pre' (by tb_start) (List.prefix_refl _) (by tb_start)
  · rename News _ _ _ _=>nN
    have nD:=Zd nN (by ktr_unf)
    rw [Zf0 htg'] at nN nD
    exact ret _ _ _ _ _ [_,_] (W.Dat.tuple [.str (.ofString "no"),.list []]) _ _ _ _ _ _ _ _ _ _ _ (by k_asm) (Zc nN (by ktr_rel)) (Zb nD (by ktr_rel)) (.inr ⟨hgd',hok',rfl,rfl,v',hres',((ZaV htg').trans (if_neg (fun q=>by rw [← hb',‹b'=false›] at q;cases q))).symm⟩) (by kqd_in) (by tb_start) hxs' hpt' hS' pre' (by tb_start) (List.prefix_refl _) (by tb_start)
  · rename News _ _ _ _=>nN
    have nD:=Zd nN (by ktr_unf)
    obtain ⟨hv2,he2,e2,z2⟩:=ZgD tg hv he c'
    rw [e2] at nN nD
    exact ret _ _ _ _ _ (_::TT') (W.Dat.tuple [.str (.ofString "error"),_]) _ _ _ _ _ _ _ _ _ _ _ (by k_asm) (Zc nN (by ktr_rel)) (Zb nD (by ktr_rel)) (.inl ⟨_,rfl,her'⟩) (DatIn.tuple (List.Mem.head _) (.cons (.str _ _) (.cons (DatIn.mono (fun _ hq =>.tail _ hq) hdd') .nil))) z2 hxs' hpt' hS' pre' (by tb_start) pref' (by tb_start)
theorem Zfh {tg chars mv sym tl an fl fn pst f c' pl ple tm he xe js hp stk trl s_n sto stod jm mcode xl grd rts bgs dbs m_n mad mmd kf1 kf2 doc pm ctv hv xv t1 t2 fix sn pj cj pe idx ops kps past act codes ti TX FN S news rest}:@JX w p loose mean mg mb dp un gd cn cs a ccd cl A₀ base h₀ L m s Q E tg chars mv sym tl an fl fn pst f c' pl ple tm he xe js hp stk trl s_n sto stod jm mcode xl grd rts bgs dbs m_n mad mmd kf1 kf2 doc pm ctv hv xv t1 t2 fix sn pj cj pe idx ops kps past act codes ti TX FN S news rest:=ZN (k:=JW) rfl ZbA (dC |>.sc (gt dC.c [w]) |>.sd (gt dC.d [p]) |>.sh (gt dC.h [loose,TX]) |>.sk (gt dC.k [mean]) |>.si (gt dC.i [mg,mb,m]) |>.sa (gt dC.a [dp,un,a,L,sym,tl,an,fl,fn,pst,f,c',pl,ple,tm,he,xe,hp,stk,trl,s_n,sto,stod,mcode,xl,grd,rts,bgs,dbs,m_n,mad,mmd,kf1,kf2,sn,pj,cj,pe,idx]) |>.sl (gt dC.l [gd]) |>.sn (gt dC.n [cn,act]) |>.sr (gt dC.r [cs]) |>.sp (gt dC.p [ccd,doc,pm,ctv]) |>.ss (gt dC.s [cl]) |>.se (gt dC.e [A₀]) |>.sj (gt dC.j [base,h₀]) |>.sf (gt dC.f [s]) |>.sg (gt dC.g [Q,E]) |>.svd (gt dC.vd [tg]) |>.sz (gt dC.z [chars,mv,past]) |>.svj (gt dC.vj [js,jm]) |>.svc (gt dC.vc [hv,xv]) |>.so (gt dC.o [t1,t2,ti]) |>.sb (gt dC.b [fix,S,news,rest]) |>.sv (gt dC.v [ops]) |>.sy (gt dC.y [kps]) |>.sw (gt dC.w [codes]) |>.st (gt dC.t [FN]))
include B F X T hk
end
section
theorem Znh:True:=by
  walk_at "RST"
  trivial
theorem ZA {prog:Program}{w:World}{A:Around}{E:Value→Shared→Prop}{s:Shared}{h₀:Heap}{L l:Addr}{news:List (Addr×Obj)}{vs:List Value}{n j:Nat}{k:Int}{u:Tok}{x:Value}{Q:Value→Shared→Prop}{value slice:PySem.Expr}(N:News h₀ L s.heap news)(hm:(l,W.listOf vs.toArray n)∈news)(h0:0≤k)(hfit:k<2 ^ 63)(hj:k.toNat=j)(hx:vs[j]? = some x)(h:Q x s)
    (hs:subscripted slice false (.ref l) (.int k u)=operate [.ref l,.int k u] (getItem (.ref l) (.int k u)):=by with_unfolding_all rfl) (hg:∀ r,letTemporaryGo value (.ref l) r=pure ():=by intro _;with_unfolding_all rfl) :
    wpAny (model prog w) A (subscriptTail value slice (.ref l) (.int k u)) Q E s :=
  PyProof.Rows.subscriptTail_builtin (PySem.IsL.isList (n:=n) (N _ hm).1).typeIs slot_list_getitem.lookup (JK N hm h0 hfit hj hx h) hs hg
theorem Yy {L:Nat}{o4:Obj}{l:List (Addr×Obj)}(h:∀ p∈l,p.1<L)(D:Za l):Za ((L+1,o4)::l):=Za.cons (allLt_of fun p hp=>Nat.lt_succ_of_lt (h p hp)) D
open Classical in
theorem ZgO {prog:Program}{w:World}{A:Around}{E:Value→Shared→Prop}{s:Shared}{h₀:Heap}{L:Addr}{news:List (Addr×Obj)}{Q:Value→Shared→Prop}{va vb:Value}{d:W.Dat}{ds:List W.Dat}(N:News h₀ L s.heap news)(ma:W.DatIn news va (.list (d::ds)))(mb:W.DatIn news vb (.list []))
   (hu:A.units+64<cLine)(ka:kqdOk 9 (.list (d::ds))=true)(h:Q (.bool false) s):wpAny (model prog w) A (compareOp .Eq va vb) Q E s:=by
  refine Gp N ma mb ka rfl hu ?_
  have hq:¬ (W.Dat.list (d::ds)=W.Dat.list []):=fun q=>by injection q with q;cases q
  rw [decide_eq_false hq]
  exact h
theorem WL {h₀ h:Heap}{L:Addr}{l S T rest r₁ r₂ j:List (Addr×Obj)}(N:News h₀ L h l)(a:Tk S l r₁)(b:Tk T r₁ r₂)(c:Tk rest r₂ j):News h₀ L h ((j++T)++(S++rest)):=fun p hp=>N p <| by
  refine (List.Perm.mem_iff a.perm).mpr ?_
  rcases List.mem_append.mp hp with h|h
  · refine List.mem_append_right _ ((List.Perm.mem_iff b.perm).mpr ?_)
    rcases List.mem_append.mp h with h|h
    · exact List.mem_append_right _ ((List.Perm.mem_iff c.perm).mpr (List.mem_append_right _ h))
    · exact List.mem_append_left _ h
  · rcases List.mem_append.mp h with h|h
    · exact List.mem_append_left _ h
    · exact List.mem_append_right _ ((List.Perm.mem_iff b.perm).mpr (List.mem_append_right _ ((List.Perm.mem_iff c.perm).mpr (List.mem_append_left _ h))))
theorem W4 {l S T rest r₁ r₂ j:List (Addr×Obj)}(D:Za l)(a:Tk S l r₁)(b:Tk T r₁ r₂)(c:Tk rest r₂ j):Za ((j++T)++(S++rest)):=by
  refine D.perm (List.Perm.trans a.perm (List.Perm.trans (List.Perm.append_left S (List.Perm.trans b.perm (List.Perm.append_left T c.perm))) ?_))
  -- S++(T++(rest++j)) ~ (j++T)++(S++rest)
  refine List.Perm.trans (l₂:=(S++rest)++(j++T)) ?_ List.perm_append_comm
  rw [List.append_assoc]
  refine List.Perm.append_left S ?_
  refine List.Perm.trans List.perm_append_comm ?_
  rw [List.append_assoc]
theorem kqa {i:Int}:kqdOk 8 (ZX i)=true:=by
  have e:PyData.strOk (Str.ofString "a")=true:=by decide +kernel
  show ([W.Dat.str (Str.ofString "a"),W.Dat.int i].all (kqdOk 7))=true
  simp [kqdOk,e]
theorem WI {α:Type}{l l':List α}{i:Nat}{x:α}(h:l[i]? = some x)(p:l<+:l'):l'[i]? = some x:=Zx p h
theorem pg2 {α:Type}{l l' l'':List α}{i:Nat}{x:α}(h:l[i]? = some x)(p:l<+:l')(q:l'<+:l''):l''[i]? = some x:=Zx q (Zx p h)
theorem kq2 {i:Int}{dc:W.Dat}(h:kqdOk 8 dc=true):kqdOk 9 (.list [ZX i,dc])=true:=by
  show ([ZX i,dc].all (kqdOk 8))=true
  simp only [List.all_cons,List.all_nil,h,kqa,Bool.and_true]
theorem kq3 {i k:Int}{dc:W.Dat}(h:kqdOk 8 dc=true):kqdOk 9 (.list [ZX i,ZX k,dc])=true:=by
  show ([ZX i,ZX k,dc].all (kqdOk 8))=true
  simp only [List.all_cons,List.all_nil,h,kqa,Bool.and_true]
theorem Zng:True:=by
  walk_at "G slim"
  walk_at "G loop"
  trivial
section
variable {w:World}{p:Program}{loose:List Str}{mean:ExcName→Option Value}{mg mb:Str→Option Value}
   {dp un:Nat}{gd:Option (List Code)}{cn:Str}{cs:Scope}{a:Addr}{ccd:Value}{cl:List (Str×Addr)}{outer:List Env}{A₀:Around}{base h₀:Heap}{L:Addr}{m:Str→Option Value}{s:Shared}{Q E:Value→Shared→Prop}
   (B:Below A₀ base outer h₀)(F:Fr h₀ L s.heap m)(X:(K w.params).In h₀)(T:Top p loose mean mg mb h₀)(hk:cs.kind = .function)
include B F X T hk
theorem Znf:True:=by
  walk_at "G der"
  walk_at "G AskC"
  walk_at "G LawC"
  k_with "call ref" =>(k_here;(with_reducible show wpAny _ _ (call (Value.ref 88) _) _ _ _);k_dflt (refine' ZW (B:=?zB) (F:=?zF) (X:=?zX) (T:=?zT) (hk:=?zhk) (N:=?zN) (hdp:=?zhdp) (hun:=?zhun) (hm1:=?zhm1) (hm2:=?zhm2) (hS:=?zhS) (P:=?zP) (D:=?zD) (hb:=?zhb) (ret:=?_);k_extra "z6";(case zhS=>first|with_reducible assumption|k_asm);(case zP=>ktr_rel);(case zhm1=>k_mem);(case zhm2=>k_mem);(case zhb=>tb_start);(case zhdp=>ktr_room);(case zhun=>ktr_units);(case zD=>ktr_unf));intro i' t' TX' S' h' tk' hi' pre' len' hS' F' N' D';(try dsimp only))
  k_with "call ref" =>(k_here;(with_reducible show wpAny _ _ (call (Value.ref 109) _) _ _ _);k_dflt (refine' ZQ (B:=?zB) (F:=?zF) (X:=?zX) (T:=?zT) (hk:=?zhk) (N:=?zN) (hdp:=?zhdp) (hun:=?zhun) (hm1:=?zhm1) (hm2:=?zhm2) (hS:=?zhS) (P:=?zP) (D:=?zD) (hb:=?zhb) (hb':=?zhb') (ret:=?_);k_extra "z6";(case zhS=>first|with_reducible assumption|k_asm);(case zP=>ktr_rel);(case zhm1=>k_mem);(case zhm2=>k_mem);(case zhb=>tb_start);(case zhb'=>tb_start);(case zhdp=>ktr_room);(case zhun=>ktr_units);(case zD=>ktr_unf));intro i' t' ia' TX' FN' S' h' tk' hia' hi' pre' len' pref' lenf' hS' F' N' D';(try dsimp only))
  trivial
omit B F X T hk in
noncomputable def G9 {sym sd tl an fl fn n:Nat}{jy:Hs}{lp le:Nat}{tx tk0:Tok}{x kd:Str}{TX:List Str}{FN:List (Int×Int)}{S news rest:List (Addr×Obj)}:Prop:=∀ (B:Below A₀ base outer h₀)(F:Fr h₀ L s.heap m)(X:(K w.params).In h₀)(T:Top p loose mean mg mb h₀)(hk:cs.kind = .function)(N:News h₀ L s.heap news)(P:Tk S news rest)(hS:Zh w tl an fl fn TX FN S)(D:Za news)(hm1:(sym,instObj 154 sd)∈rest)(hm2:(sd,Zq jy tl an fl fn n)∈rest)(mlp:(lp,W.listOf [.str x tx].toArray le)∈rest)(hb:TX.length<40000)(hb':FN.length<40000)(hdp:dp+25<recursionLimit)(hun:un+200<cLine)(ret:∀ (t:Nat)(TX':List Str)(FN':List (Int×Int))(S' TT':List (Addr×Obj))(d1 dd:W.Dat)(h':Heap)(tk':Nat),Fr h₀ L h' m→News h₀ L h' (TT'++(S'++rest))→Za (TT'++(S'++rest))→Zh w tl an fl fn TX' FN' S' →
      W.DatIn TT' (.ref t) (.tuple [.str (.ofString "error"),dd])→Zv TX' x d1→ZG TX' FN' kd [d1] dd→TX<+:TX'→TX'.length≤TX.length+2→FN<+:FN'→FN'.length≤FN.length+1→Q (.ref t) {s with heap:=h',toks:=tk'}),
   wpAny (model PR w) (ktrTop dp un gd cn cs L a ccd cl outer) (call (.ref 1118) [.ref sym,.str kd tk0,.ref lp]) Q E s
noncomputable def Vk (c:Zf):Prop:=@cF _ (@G9) c (c.a 4) (c.a 5) (c.a 6) (c.a 7) (c.a 8) (c.a 9) (c.a 10) (c.vj 0) (c.a 11) (c.a 12) (c.o 0) (c.o 1) (c.n 1) (c.n 2) (c.h 1) (c.t 0) (c.b 0) (c.b 1) (c.b 2)
omit B F X T hk in
noncomputable def G8 {sym sd tl an fl fn n:Nat}{jy:Hs}{lp le ct nt:Nat}{cvs:List Value}{dc:W.Dat}{tx tk0:Tok}{x kd:Str}{TX:List Str}{FN:List (Int×Int)}{S TT news rest:List (Addr×Obj)}:Prop:=∀ (B:Below A₀ base outer h₀)(F:Fr h₀ L s.heap m)(X:(K w.params).In h₀)(T:Top p loose mean mg mb h₀)(hk:cs.kind = .function)(N:News h₀ L s.heap news)(P:Tk (S++TT) news rest)(hS:Zh w tl an fl fn TX FN S)(D:Za news)(hm1:(sym,instObj 154 sd)∈rest)(hm2:(sd,Zq jy tl an fl fn n)∈rest)(mlp:(lp,W.listOf [.str x tx,.ref ct].toArray le)∈rest)(hc:(ct,({cls :=.type "tuple",data :=.seq cvs.toArray nt}:Obj))∈TT)(hcd:W.DatIn TT (.ref ct) dc)(hko:kqdOk 8 dc=true)(mkt:Y3 ct)(hb:TX.length<40000)(hb':FN.length<40000)(hdp:dp+25<recursionLimit)(hun:un+200<cLine)(ret:∀ (t:Nat)(TX':List Str)(FN':List (Int×Int))(S' TT':List (Addr×Obj))(d1 dd:W.Dat)(h':Heap)(tk':Nat),Fr h₀ L h' m→News h₀ L h' (TT'++(S'++rest))→Za (TT'++(S'++rest))→Zh w tl an fl fn TX' FN' S' →
      W.DatIn TT' (.ref t) (.tuple [.str (.ofString "error"),dd])→(∀ p∈TT,p∈TT')→Zv TX' x d1→ZG TX' FN' kd [d1,dc] dd→TX<+:TX'→TX'.length≤TX.length+2→FN<+:FN'→FN'.length≤FN.length+1→Q (.ref t) {s with heap:=h',toks:=tk'}),
   wpAny (model PR w) (ktrTop dp un gd cn cs L a ccd cl outer) (call (.ref 1118) [.ref sym,.str kd tk0,.ref lp]) Q E s
noncomputable def Vi (c:Zf):Prop:=@cF _ (@G8) c (c.a 4) (c.a 5) (c.a 6) (c.a 7) (c.a 8) (c.a 9) (c.a 10) (c.vj 0) (c.a 11) (c.a 12) (c.a 13) (c.a 14) (c.u 0) (c.vb 0) (c.o 0) (c.o 1) (c.n 1) (c.n 2) (c.h 1) (c.t 0) (c.b 0) (c.b 1) (c.b 2) (c.b 3)
omit B F X T hk in
noncomputable def G7 {sym sd tl an fl fn n:Nat}{jy:Hs}{lp le ct nt:Nat}{cvs:List Value}{dc:W.Dat}{tx ty tk0:Tok}{x y kd:Str}{TX:List Str}{FN:List (Int×Int)}{S TT news rest:List (Addr×Obj)}:Prop:=∀ (B:Below A₀ base outer h₀)(F:Fr h₀ L s.heap m)(X:(K w.params).In h₀)(T:Top p loose mean mg mb h₀)(hk:cs.kind = .function)(N:News h₀ L s.heap news)(P:Tk (S++TT) news rest)(hS:Zh w tl an fl fn TX FN S)(D:Za news)(hm1:(sym,instObj 154 sd)∈rest)(hm2:(sd,Zq jy tl an fl fn n)∈rest)(mlp:(lp,W.listOf [.str x tx,.str y ty,.ref ct].toArray le)∈rest)(hc:(ct,({cls :=.type "tuple",data :=.seq cvs.toArray nt}:Obj))∈TT)(hcd:W.DatIn TT (.ref ct) dc)(hko:kqdOk 8 dc=true)(hb:TX.length<40000)(hb':FN.length<40000)(hdp:dp+25<recursionLimit)(hun:un+200<cLine)(ret:∀ (t:Nat)(TX':List Str)(FN':List (Int×Int))(S' TT':List (Addr×Obj))(d1 d2 dd:W.Dat)(h':Heap)(tk':Nat),Fr h₀ L h' m→News h₀ L h' (TT'++(S'++rest))→Za (TT'++(S'++rest))→Zh w tl an fl fn TX' FN' S' →
      W.DatIn TT' (.ref t) (.tuple [.str (.ofString "error"),dd])→Zv TX' x d1→Zv TX' y d2→ZG TX' FN' kd [d1,d2,dc] dd→TX<+:TX'→TX'.length≤TX.length+3→FN<+:FN'→FN'.length≤FN.length+1→Q (.ref t) {s with heap:=h',toks:=tk'}),
   wpAny (model PR w) (ktrTop dp un gd cn cs L a ccd cl outer) (call (.ref 1118) [.ref sym,.str kd tk0,.ref lp]) Q E s
noncomputable def Vh (c:Zf):Prop:=@cF _ (@G7) c (c.a 4) (c.a 5) (c.a 6) (c.a 7) (c.a 8) (c.a 9) (c.a 10) (c.vj 0) (c.a 11) (c.a 12) (c.a 13) (c.a 14) (c.u 0) (c.vb 0) (c.o 0) (c.o 1) (c.o 2) (c.n 1) (c.n 2) (c.n 3) (c.h 1) (c.t 0) (c.b 0) (c.b 1) (c.b 2) (c.b 3)
noncomputable def Vj:Zf:=ZM Zj fun c=>Vk c∧Vi c∧Vh c
omit B F X T hk in
theorem Zcq:Vk Vj:=by
  delta Vk cF
  k_extra "gS"
  exists Zf.h _ _,TX
  exists Zf.a _ _,sym,sd,tl,an,fl,fn,n,lp,le
  exists Zf.n _ _,x,kd
  exists Zf.vj _ _,jy
  exists Zf.o _ _,tx,tk0
  exists Zf.t _ _,FN
  exists Zf.b _ _,S,news,rest
  intro B F X T hk N P hS D hm1 hm2 mlp hb hb' hdp hun ret
  delta Zq at *
  have N₁:=Ze N P.perm
  have D₁:=D.perm P.perm
  clear N D P
  refine wpAny_call ?_
  k_dflt (refine' code_defC ?k1 ?k2 ?k3 ?k4 ?k5 ?kA ?kF ?kK ?k6 ?k7 ?k8 ?k9 ?kB ?kD ?_ ?c2 ?c3 ?c4;(case kA=>exact rfl);(case kF=>exact rfl);(case kK=>assumption);(case k1=>k_asm);(case k2=>k_asm);(case k3=>k_asm);(case k4=>k_asm);(case k5=>k_asm);(case k6=>k_is);(case k7=>k_is);(case k8=>ktr_room);(case k9=>exact BindsTo.of_eq rfl);(case kB=>exact rfl);(case kD=>decide +kernel);(case c2=>exact rfl);(case c3=>exact rfl);(case c4=>exact rfl);k_whole)
  intro g' L' h' tk' cells' FG' F' N' Y' B' X' T' l1
  k_cells Y'
  (try simp only [List.cons_append,List.nil_append] at N')
  (try dsimp only);(try k_lift B');(try k_fold)
  have D₂:=Zd N' (Yy l1 D₁)
  k_steps
  rename News _ _ _ _=>nN
  have nD:=Zd nN (by ktr_unf)
  exact ret _ _ _ _ _ _ _ _ _ (by k_asm) (WL (S:=S') (T:=[]) (rest:=rest) nN (by ktr_rel) (by ktr_rel) (by ktr_rel)) (W4 (S:=S') (T:=[]) (rest:=rest) nD (by ktr_rel) (by ktr_rel) (by ktr_rel)) hS' (by kqd_in) ⟨_,WI (by assumption) (by assumption),rfl⟩ ⟨_,_,by assumption,by assumption,rfl⟩ (List.IsPrefix.trans (by assumption) (by assumption)) (by tb_start) (by assumption) (by assumption)
omit B F X T hk in
theorem Zco:Vi Vj:=by
  delta Vi cF
  k_extra "gS"
  exists Zf.h _ _,TX
  exists Zf.a _ _,sym,sd,tl,an,fl,fn,n,lp,le,ct,nt
  exists Zf.n _ _,x,kd
  exists Zf.vj _ _,jy
  exists Zf.u _ _,cvs
  exists Zf.vb _ _,dc
  exists Zf.o _ _,tx,tk0
  exists Zf.t _ _,FN
  exists Zf.b _ _,S,TT,news,rest
  intro B F X T hk N P hS D hm1 hm2 mlp hc hcd hko mkt hb hb' hdp hun ret
  delta Zq at *
  have N₁:=Ze N P.perm
  have D₁:=D.perm P.perm
  rw [List.append_assoc] at N₁ D₁
  clear N D P
  refine wpAny_call ?_
  k_dflt (refine' code_defC ?k1 ?k2 ?k3 ?k4 ?k5 ?kA ?kF ?kK ?k6 ?k7 ?k8 ?k9 ?kB ?kD ?_ ?c2 ?c3 ?c4;(case kA=>exact rfl);(case kF=>exact rfl);(case kK=>assumption);(case k1=>k_asm);(case k2=>k_asm);(case k3=>k_asm);(case k4=>k_asm);(case k5=>k_asm);(case k6=>k_is);(case k7=>k_is);(case k8=>ktr_room);(case k9=>exact BindsTo.of_eq rfl);(case kB=>exact rfl);(case kD=>decide +kernel);(case c2=>exact rfl);(case c3=>exact rfl);(case c4=>exact rfl);k_whole)
  intro g' L' h' tk' cells' FG' F' N' Y' B' X' T' l1
  k_cells Y'
  (try simp only [List.cons_append,List.nil_append] at N')
  (try dsimp only);(try k_lift B');(try k_fold)
  have D₂:=Zd N' (Yy l1 D₁)
  k_steps
  rename News _ _ _ _=>nN
  have nD:=Zd nN (by ktr_unf)
  exact ret _ _ _ _ _ _ _ _ _ (by k_asm) (WL (S:=S') (T:=TT) (rest:=rest) nN (by ktr_rel) (by ktr_rel) (by ktr_rel)) (W4 (S:=S') (T:=TT) (rest:=rest) nD (by ktr_rel) (by ktr_rel) (by ktr_rel)) hS' (by kqd_in) (fun p hp=>List.mem_append_right _ hp) ⟨_,WI (by assumption) (by assumption),rfl⟩ ⟨_,_,by assumption,by assumption,rfl⟩ (List.IsPrefix.trans (by assumption) (by assumption)) (by tb_start) (by assumption) (by assumption)
omit B F X T hk in
theorem Zcn:Vh Vj:=by
  delta Vh cF
  k_extra "gS"
  exists Zf.h _ _,TX
  exists Zf.a _ _,sym,sd,tl,an,fl,fn,n,lp,le,ct,nt
  exists Zf.n _ _,x,y,kd
  exists Zf.vj _ _,jy
  exists Zf.u _ _,cvs
  exists Zf.vb _ _,dc
  exists Zf.o _ _,tx,ty,tk0
  exists Zf.t _ _,FN
  exists Zf.b _ _,S,TT,news,rest
  intro B F X T hk N P hS D hm1 hm2 mlp hc hcd hko hb hb' hdp hun ret
  delta Zq at *
  have N₁:=Ze N P.perm
  have D₁:=D.perm P.perm
  rw [List.append_assoc] at N₁ D₁
  clear N D P
  refine wpAny_call ?_
  k_dflt (refine' code_defC ?k1 ?k2 ?k3 ?k4 ?k5 ?kA ?kF ?kK ?k6 ?k7 ?k8 ?k9 ?kB ?kD ?_ ?c2 ?c3 ?c4;(case kA=>exact rfl);(case kF=>exact rfl);(case kK=>assumption);(case k1=>k_asm);(case k2=>k_asm);(case k3=>k_asm);(case k4=>k_asm);(case k5=>k_asm);(case k6=>k_is);(case k7=>k_is);(case k8=>ktr_room);(case k9=>exact BindsTo.of_eq rfl);(case kB=>exact rfl);(case kD=>decide +kernel);(case c2=>exact rfl);(case c3=>exact rfl);(case c4=>exact rfl);k_whole)
  intro g' L' h' tk' cells' FG' F' N' Y' B' X' T' l1
  k_cells Y'
  (try simp only [List.cons_append,List.nil_append] at N')
  (try dsimp only);(try k_lift B');(try k_fold)
  have D₂:=Zd N' (Yy l1 D₁)
  k_steps
  rename News _ _ _ _=>nN
  have nD:=Zd nN (by ktr_unf)
  exact ret _ _ _ _ _ _ _ _ _ _ (by k_asm) (WL (S:=S') (T:=TT) (rest:=rest) nN (by ktr_rel) (by ktr_rel) (by ktr_rel)) (W4 (S:=S') (T:=TT) (rest:=rest) nD (by ktr_rel) (by ktr_rel) (by ktr_rel)) hS' (by kqd_in) ⟨_,pg2 (by assumption) (by assumption) (by assumption),rfl⟩ ⟨_,WI (by assumption) (by assumption),rfl⟩ ⟨_,_,by assumption,by assumption,rfl⟩ (List.IsPrefix.trans (by assumption) (List.IsPrefix.trans (by assumption) (by assumption))) (by tb_start) (by assumption) (by assumption)
omit B F X T hk in
theorem YV:∀ c:Zf,Vk c∧Vi c∧Vh c:=ZN (k:=Vj) rfl ⟨Zcq,Zco,Zcn⟩
omit B F X T hk in
theorem Zcr {sym sd tl an fl fn n jy lp le tx tk0 x kd TX FN S news rest}:@G9 w p loose mean mg mb dp un gd cn cs a ccd cl outer A₀ base h₀ L m s Q E sym sd tl an fl fn n jy lp le tx tk0 x kd TX FN S news rest:=(YV (cS w p loose mean mg mb m gd cn cs ccd cl outer A₀ base h₀ s Q E |>.sh (gt dC.h [loose,TX]) |>.sa (gt dC.a [dp,un,a,L,sym,sd,tl,an,fl,fn,n,lp,le]) |>.sn (gt dC.n [cn,x,kd]) |>.svj (gt dC.vj [jy]) |>.so (gt dC.o [tx,tk0]) |>.st (gt dC.t [FN]) |>.sb (gt dC.b [S,news,rest]))).1
omit B F X T hk in
theorem Zcp {sym sd tl an fl fn n jy lp le ct nt cvs dc tx tk0 x kd TX FN S TT news rest}:@G8 w p loose mean mg mb dp un gd cn cs a ccd cl outer A₀ base h₀ L m s Q E sym sd tl an fl fn n jy lp le ct nt cvs dc tx tk0 x kd TX FN S TT news rest:=(YV (cS w p loose mean mg mb m gd cn cs ccd cl outer A₀ base h₀ s Q E |>.sh (gt dC.h [loose,TX]) |>.sa (gt dC.a [dp,un,a,L,sym,sd,tl,an,fl,fn,n,lp,le,ct,nt]) |>.sn (gt dC.n [cn,x,kd]) |>.svj (gt dC.vj [jy]) |>.su (gt dC.u [cvs]) |>.svb (gt dC.vb [dc]) |>.so (gt dC.o [tx,tk0]) |>.st (gt dC.t [FN]) |>.sb (gt dC.b [S,TT,news,rest]))).2.1
omit B F X T hk in
theorem Zgv {sym sd tl an fl fn n jy lp le ct nt cvs dc tx ty tk0 x y kd TX FN S TT news rest}:@G7 w p loose mean mg mb dp un gd cn cs a ccd cl outer A₀ base h₀ L m s Q E sym sd tl an fl fn n jy lp le ct nt cvs dc tx ty tk0 x y kd TX FN S TT news rest:=(YV (cS w p loose mean mg mb m gd cn cs ccd cl outer A₀ base h₀ s Q E |>.sh (gt dC.h [loose,TX]) |>.sa (gt dC.a [dp,un,a,L,sym,sd,tl,an,fl,fn,n,lp,le,ct,nt]) |>.sn (gt dC.n [cn,x,y,kd]) |>.svj (gt dC.vj [jy]) |>.su (gt dC.u [cvs]) |>.svb (gt dC.vb [dc]) |>.so (gt dC.o [tx,ty,tk0]) |>.st (gt dC.t [FN]) |>.sb (gt dC.b [S,TT,news,rest]))).2.2
end
end
theorem Zne:True:=by
  walk_at "RST"
  walk_at "G slE"
  k_with "subscriptTail" =>(k_here;(with_reducible show wpAny _ _ (subscriptTail _ _ (Value.ref _) (Value.int _ _)) _ _ _);k_dflt (refine' ZA ?N ?m ?h0 ?hf ?hj ?hx ?_;(case N=>k_asm);(case m=>k_mem);(case hj=>exact rfl);(case hx=>exact rfl);(case h0=>tb_start);(case hf=>tb_start)))
  k_with "setItem ref int" =>(k_here;(with_reducible show wpAny _ _ (setItem (Value.ref _) (Value.int _ _) _) _ _ _);k_dflt (refine' GK ?F ?N ?U ?h0 ?hf ?hj ?hl ?hx ?_;(case F=>k_asm);(case N=>k_asm);(case U=>k_upd);(case h0=>tb_start);(case hf=>tb_start);(case hj=>exact rfl);(case hl=>exact Nat.le_of_ble_eq_true rfl);(case hx=>exact rfl));intro h' F' N')
  trivial
theorem Gk (a:Int){b:Int}(h:0<b):0≤a.fmod b:=by rw [Int.fmod_eq_emod_of_nonneg _ (Int.le_of_lt h)];exact Int.emod_nonneg _ (Int.ne_of_gt h)
theorem Gl (a:Int){b:Int}(h:0<b):a.fmod b<b:=by rw [Int.fmod_eq_emod_of_nonneg _ (Int.le_of_lt h)];exact Int.emod_lt_of_pos _ h
theorem Ze9 {a b:Int}(h:0≤a)(k:0<b):0≤a.fdiv b:=by rw [Int.fdiv_eq_ediv_of_nonneg _ (Int.le_of_lt k)];exact Int.ediv_nonneg h (Int.le_of_lt k)
section
variable {w:World}{p:Program}{loose:List Str}{mean:ExcName→Option Value}{mg mb:Str→Option Value}
   {dp un:Nat}{gd:Option (List Code)}{cn:Str}{cs:Scope}{a:Addr}{ccd:Value}{cl:List (Str×Addr)}{outer:List Env}{A₀:Around}{base h₀:Heap}{L:Addr}{m:Str→Option Value}{s:Shared}{Q E:Value→Shared→Prop}
   (B:Below A₀ base outer h₀)(F:Fr h₀ L s.heap m)(X:(K w.params).In h₀)(T:Top p loose mean mg mb h₀)(hk:cs.kind = .function)
include B F X T hk
@[reducible] noncomputable def Vm (cl':Nat)(i c sd:Int)(t1 t2 t3:Tok)(ep:Nat):Obj:=W.listOf [.ref cl',.int i t1,.int c t2,.int sd t3].toArray ep
omit B F X T hk
noncomputable def GT {hl cl':Nat}{cells:List Value}{ns:List Int}{i c sd lim:Int}{t1 t2 t3 t4:Tok}{ep ep':Nat}{news rest:List (Addr×Obj)}:Prop:=∀ (B:Below A₀ base outer h₀)(F:Fr h₀ L s.heap m)(X:(K w.params).In h₀)(T:Top p loose mean mg mb h₀)(hk:cs.kind = .function)(N:News h₀ L s.heap news)(P:Tk [(hl,Vm cl' i c sd t1 t2 t3 ep)] news rest)(D:Za news)(hcl:(cl',W.listOf cells.toArray ep')∈rest)(hi:IntsAre cells ns)(hlen:ns.length<100)(q1:0≤i)(q2:i≤ns.length)(q3:0≤c)(q4:0≤sd)(q5:sd<2147483647)(q6:0<lim)(q7:lim<100)(hdp:dp+5<recursionLimit)(hun:un+40<cLine)(ret:∀ (d i' c' sd':Int)(t t1 t2 t3:Tok)(ep:Nat)(h':Heap)(tk':Nat),Fr h₀ L h' m→News h₀ L h' ((hl,Vm cl' i' c' sd' t1 t2 t3 ep)::rest)→Za ((hl,Vm cl' i' c' sd' t1 t2 t3 ep)::rest)→0≤d→d<lim→0≤i'→i'≤ns.length→0≤c'→0≤sd'→sd'<2147483647→Q (.int d t) {s with heap:=h',toks:=tk'}),
   wpAny (model PR w) (ktrTop dp un gd cn cs L a ccd cl outer) (call (.ref 1113) [.ref hl,.int lim t4]) Q E s
noncomputable def UM (c:Zf):Prop:=@cF _ (@GT) c (c.a 4) (c.a 5) (c.u 0) (c.w 0) (c.m 0) (c.m 1) (c.m 2) (c.m 3) (c.o 0) (c.o 1) (c.o 2) (c.o 3) (c.a 6) (c.a 7) (c.b 0) (c.b 1)
noncomputable def GS:Zf:=ZM Zj UM
theorem Zb7:UM GS:=by
  delta UM cF
  k_extra "gS"
  exists Zf.a _ _,hl,cl',ep,ep'
  exists Zf.u _ _,cells
  exists Zf.w _ _,ns
  exists Zf.m _ _,i,c,sd,lim
  exists Zf.o _ _,t1,t2,t3,t4
  exists Zf.b _ _,news,rest
  intro B F X T hk N P D hcl hi hlen q1 q2 q3 q4 q5 q6 q7 hdp hun ret
  have N₁:News h₀ L s.heap ((hl,Vm cl' i c sd t1 t2 t3 ep)::rest):=Ze N P.perm
  have D₁:Za ((hl,Vm cl' i c sd t1 t2 t3 ep)::rest):=D.perm P.perm
  have hsz:cells.toArray.size=ns.length:=by rw [List.size_toArray];exact hi.length
  have hsm:Zl cells.toArray:=by unfold Zl;tb_start
  refine wpAny_call ?_
  k_dflt cell_enter
  k_steps
  all_goals exact ret _ _ _ _ _ _ _ _ _ _ _ (by k_asm) (by k_asm) (by ktr_unf) (Gk _ q6) (Gl _ q6) (by tb_start) (by tb_start) (by first|assumption|exact Ze9 (by tb_start) q6) (by first|assumption|exact Gk _ (by decide)) (by first|assumption|exact Gl _ (by decide))
theorem Zgp {hl cl' cells ns i c sd lim t1 t2 t3 t4 ep ep' news rest}:@GT w p loose mean mg mb dp un gd cn cs a ccd cl outer A₀ base h₀ L m s Q E hl cl' cells ns i c sd lim t1 t2 t3 t4 ep ep' news rest:=ZN (k:=GS) rfl Zb7 (cS w p loose mean mg mb m gd cn cs ccd cl outer A₀ base h₀ s Q E |>.sa (gt dC.a [dp,un,a,L,hl,cl',ep,ep']) |>.su (gt dC.u [cells]) |>.sw (gt dC.w [ns]) |>.sm (gt dC.m [i,c,sd,lim]) |>.so (gt dC.o [t1,t2,t3,t4]) |>.sb (gt dC.b [news,rest]))
include B F X T hk
end
theorem Znd:True:=by
  walk_at "RST"
  trivial
@[reducible] noncomputable def Zg (gj:Nat)(idx:Nat)(past:Bool)(act:Str)(ti ta:Tok)(we:Nat):Obj:=W.listOf [.ref gj,.int idx ti,.bool past,.str act ta].toArray we
theorem kqi {i:Int}{n:Nat}:kqdOk (n+1) (UZ i)=true:=by
  have e:PyData.strOk (Str.ofString "i")=true:=by decide +kernel
  show ([W.Dat.str (Str.ofString "i"),W.Dat.int i].all (kqdOk n))=true
  simp [kqdOk,e]
theorem kqs {f i:Int}:kqdOk 8 (YU f [UZ i])=true:=by
  have e:PyData.strOk (Str.ofString "s")=true:=by decide +kernel
  show ([W.Dat.str (Str.ofString "s"),W.Dat.int f,W.Dat.tuple [UZ i]].all (kqdOk 7))=true
  have e2:kqdOk 7 (W.Dat.tuple [UZ i])=true:=by
    show ([UZ i].all (kqdOk 6))=true
    simp only [List.all_cons,List.all_nil,kqi,Bool.and_true]
  simp only [List.all_cons,List.all_nil,e2,Bool.and_true]
  simp [kqdOk,e]
theorem ZbK {x a b c:Addr×Obj}{S l rest:List (Addr×Obj)}(h:ExtA S l rest):Tk (S++[a,b,c]) (x::a::b::c::l) (x::rest):=⟨by
  refine List.Perm.trans (List.Perm.cons x (Zal (a:=a) (b:=b) (c:=c) h).perm) ?_
  exact List.perm_middle.symm⟩
theorem ZlZ {mv:Bool}{len idx:Nat}(h:mv=true)(hlt:idx<len):idx+1=Zt mv len idx:=by rw [Zt,if_pos ⟨h,hlt⟩]
theorem Zl0 {mv:Bool}{len idx:Nat}(h:mv=false):idx=Zt mv len idx:=by rw [Zt,if_neg (fun x=>by rw [h] at x;cases x.1)]
theorem Zcl {mv:Bool}{len idx:Nat}(h:len≤idx):idx=Zt mv len idx:=(UT h).symm
theorem Zjy {mv past:Bool}{len idx:Nat}(hlt:idx<len):past=Zs mv past len idx:=(US (Nat.not_le.mpr hlt)).symm
theorem Zjx {mv past:Bool}{len idx:Nat}(h:mv=true)(hl:len≤idx):true=Zs mv past len idx:=by rw [Zs,if_pos ⟨h,hl⟩]
theorem Zjz {mv past:Bool}{len idx:Nat}(h:mv=false):past=Zs mv past len idx:=by rw [Zs,if_neg (fun x=>by rw [h] at x;cases x.1)]
theorem ZgN {TX:List Str}{FN:List (Int×Int)}{chars mv:Bool}{sn:Int}{past:Bool}{codes:List Int}{idx idx':Nat}{act:Str}{tg:Tgt}{dd d1:W.Dat}{past':Bool}{c:Int}(g:ZF chars tg)(hlt:idx<codes.length)(e:codes.getD idx (-1)=c)(hc:1114111<c)(hw:Zv TX (.ofString "character") d1)(he:ZG TX FN (.ofString "representation_error") [d1] dd)
   (h1:idx'=Zt mv codes.length idx)(h2:past'=Zs mv past codes.length idx):Yl TX FN chars mv sn past codes idx act tg (.tuple [.str (.ofString "error"),dd]) idx' past' :=
  .inl ⟨dd,rfl,.inr ⟨g,.inr ⟨hlt,e ▸ hc,d1,hw,he⟩,h1,h2⟩⟩
theorem Zfu {past:Bool}{codes:List Int}{idx:Nat}{act:Str}{c:Int}(hlt:idx<codes.length)(e:codes.getD idx (-1)=c)(hc:¬ 1114111<c):Y4 past codes idx act:=⟨fun h=>absurd h.2.1 (Nat.not_le.mpr hlt),fun h=>hc (e ▸ h.2)⟩
theorem Zhi {TX:List Str}{codes:List Int}{idx j:Nat}{c:Int}(hlt:idx<codes.length)(e:codes.getD idx (-1)=c)(g:TX[j]? = some (Zd6 c)):Uk TX true codes idx 4 j:=by
  unfold Uk;rw [if_pos rfl];exact ⟨rfl,.inr ⟨hlt,j,e ▸ g,rfl⟩⟩
theorem ZlA {act y:Str}(h:(act==y)=true):act=y:=eq_of_beq h
theorem Zfv {past:Bool}{codes:List Int}{idx:Nat}{act:Str}(hle:codes.length≤idx)(h:past=false∨(act==Str.ofString "error")=false):Y4 past codes idx act:=by
  refine ⟨fun x=>?_,fun x=>absurd x.1 (Nat.not_lt.mpr hle)⟩
  rcases h with h|h
  · rw [h] at x;exact absurd x.1 (by decide)
  · rw [x.2.2,beq_self_eq_true] at h;exact absurd h (by decide)
theorem ZgM {TX:List Str}{FN:List (Int×Int)}{chars mv:Bool}{sn:Int}{past:Bool}{codes:List Int}{idx:Nat}{act:Str}{tg:Tgt}{dd d1 d2:W.Dat}{f i1:Nat}(g:ZF chars tg)(hle:codes.length≤idx)(hp:past=true)(ha:(act==Str.ofString "error")=true)(hw:Zv TX (.ofString "input") d1)(hw2:Zv TX (.ofString "past_end_of_stream") d2)(h1:TX[i1]? = some (.ofString "$stream"))(h2:FN[f]? = some ((i1:Int),1))
   (he:ZG TX FN (.ofString "permission_error") [d1,d2,YU f [UZ sn]] dd):Yl TX FN chars mv sn past codes idx act tg (.tuple [.str (.ofString "error"),dd]) idx past :=
  .inl ⟨dd,rfl,.inr ⟨g,.inl ⟨hp,hle,ZlA ha,d1,d2,f,i1,hw,hw2,h1,h2,he⟩,Zcl hle,(UR hp).symm⟩⟩
theorem Zhg {TX:List Str}{codes:List Int}{idx:Nat}(hle:codes.length≤idx):Uk TX true codes idx 4 24:=by
  unfold Uk;rw [if_pos rfl];exact ⟨rfl,.inl ⟨hle,rfl⟩⟩
theorem Zg2 {q:Addr×Obj}{S l rest:List (Addr×Obj)}(h:Tk (q::S) l rest):Tk (S++[q]) l rest:=⟨by
  refine h.perm.trans ?_
  rw [List.append_assoc]
  exact List.perm_middle.symm⟩
theorem Zhh {TX:List Str}{codes:List Int}{idx:Nat}{c:Int}(e:codes.getD idx (-1)=c):Uk TX false codes idx 5 c:=by
  unfold Uk;rw [if_neg (by decide)];exact ⟨rfl,e.symm⟩
theorem Zcy {codes:List Int}{idx:Nat}(hle:codes.length≤idx):codes.getD idx (-1) = -1:=by simp [Nat.not_lt.mpr hle]
section
theorem Znc:True:=by
  walk_at "RST"
  trivial
noncomputable def Zl9 (p:Prop):Prop:=p
theorem UD {p:Prop}(h:Zl9 p):p:=h
theorem Zgw {tg:Tgt}(h:(Zw tg==Str.ofString "v")=true):tg = .v:=by
  cases tg with
  | v=>rfl
  | a i x=>exact absurd h (by show ¬ (Str.ofString "a" == Str.ofString "v")=true;decide)
  | i k=>exact absurd h (by show ¬ (Str.ofString "i" == Str.ofString "v")=true;decide)
theorem VH {tg:Tgt}(h:(Zw tg==Str.ofString "v")=false):tg ≠ .v:=fun e=>by rw [e] at h;exact absurd h (by decide)
theorem Zgz {tg:Tgt}(g:ZF true tg)(h:(Zw tg==Str.ofString "v")=false):Zw tg = .ofString "a" :=by
  cases tg with
  | v=>exact absurd rfl (VH h)
  | a i x=>rfl
  | i k=>exact absurd g id
theorem Zgx {tg:Tgt}(g:ZF false tg)(h:(Zw tg==Str.ofString "v")=false):Zw tg = .ofString "i" :=by
  cases tg with
  | v=>exact absurd rfl (VH h)
  | a i x=>exact absurd g id
  | i k=>rfl
theorem Gy {tg:Tgt}{v:Int}(h:tg ≠ .v):J9 tg v=decide (YQ tg=v):=by cases tg with|v=>exact absurd rfl h|a i x=>rfl|i k=>rfl
theorem ZaS {ch:Bool}{tg:Tgt}{v:Int}(h:(Zw tg==Str.ofString "v")=false)(e:YQ tg=v):W.Dat.tuple [.str (.ofString "yes"),.list []]=YA ch tg v:=by
  rw [ZaV (VH h),Gy (VH h),e,decide_eq_true rfl,if_pos rfl];rfl
theorem ZaU {ch:Bool}{tg:Tgt}{v:Int}(h:(Zw tg==Str.ofString "v")=false)(e:¬ YQ tg=v):W.Dat.tuple [.str (.ofString "no"),.list []]=YA ch tg v:=by
  rw [ZaV (VH h),Gy (VH h),decide_eq_false e,if_neg (by decide)];rfl
theorem ZaT {ch:Bool}{tg:Tgt}{v:Int}(h:(Zw tg==Str.ofString "v")=true):W.Dat.tuple [.str (.ofString "yes"),.list [.tuple [.str (.ofString (bif ch then "a" else "i")),.int v]]]=YA ch tg v:=by
  rw [Zgw h];cases ch <;> rfl
theorem ZaB {tg:Tgt}:PyData.strOk (Zw tg)=true:=by
  cases tg with
  | v=>exact (by decide +kernel:PyData.strOk (Str.ofString "v")=true)
  | a i x=>exact (by decide +kernel:PyData.strOk (Str.ofString "a")=true)
  | i k=>exact (by decide +kernel:PyData.strOk (Str.ofString "i")=true)
theorem Zz {R:List (Addr×Obj)}{v:Value}{d d':W.Dat}(e:d=d')(h:W.DatIn R v d):W.DatIn R v d':=e ▸ h
noncomputable def Gz (tg:Tgt):W.Dat :=.tuple [.str (Zw tg),.int (YQ tg)]
theorem Zf6 {tg:Tgt}{k:Nat}:kqdOk (k+1) (Gz tg)=true:=by
  have e:PyData.strOk (Zw tg)=true:=ZaB
  show ([W.Dat.str (Zw tg),W.Dat.int (YQ tg)].all (kqdOk k))=true
  simp [kqdOk,e]
theorem Zf7 {tg:Tgt}{tm:Nat}{t1 t2:Tok}{news:List (Addr×Obj)}(h:(tm,ZO tg t1 t2)∈news):W.DatIn news (.ref tm) (Gz tg):=DatIn.tuple h (.cons (.str _ _) (.cons (.int _ _) .nil))
open Classical in
theorem Zlw {w:World}{A:Around}{E:Value→Shared→Prop}{s:Shared}{h₀:Heap}{L:Addr}{news:List (Addr×Obj)}{tg:Tgt}{tm vt:Nat}{K:Str}{v:Int}{t1 t2 t3 t4:Tok}{Q:Value→Shared→Prop}(N:News h₀ L s.heap news)(mt:(tm,ZO tg t1 t2)∈news)(mv:(vt,({cls :=.type "tuple",data :=.seq [Value.str K t3,Value.int v t4].toArray}:Obj))∈news)
   (hK:Zw tg=K)(hu:A.units+64<cLine)(h:Q (.bool (decide (YQ tg=v))) s):wpAny (model PR w) A (compareOp .Eq (.ref tm) (.ref vt)) Q E s:=by
  have e:PyData.strOk K=true:=by rw [← hK];exact ZaB
  refine Gp N (Zf7 mt) (DatIn.tuple mv (.cons (.str _ _) (.cons (.int _ _) .nil))) Zf6 ?_ hu ?_
  · show ([W.Dat.str K,W.Dat.int v].all (kqdOk 8))=true
    simp [kqdOk,e]
  · have q:(Gz tg=W.Dat.tuple [.str K,.int v])=(YQ tg=v):=by
      unfold Gz;rw [hK]
      exact propext ⟨fun x=>by injection x with x;injection x with _ x;injection x with x;injection x,fun x=>by rw [x]⟩
    have q2:decide (Gz tg=W.Dat.tuple [.str K,.int v])=decide (YQ tg=v):=by
      by_cases z:YQ tg=v
      · rw [decide_eq_true z,decide_eq_true (q ▸ z)]
      · rw [decide_eq_false z,decide_eq_false (q ▸ z)]
    rw [q2];exact h
section
variable {w:World}{p:Program}{loose:List Str}{mean:ExcName→Option Value}{mg mb:Str→Option Value}
   {dp un:Nat}{gd:Option (List Code)}{outer:List Env}{A₀:Around}{base h₀:Heap}{L:Addr}{m:Str→Option Value}{s:Shared}{Qk:Flow→Shared→Prop}{E:Value→Shared→Prop}
   (B:Below A₀ base outer h₀)(F:Fr h₀ L s.heap m)(X:(K w.params).In h₀)(T:Top p loose mean mg mb h₀)
include B F X T
theorem Znb:True:=by
  walk_at "G slim"
  k_with "eval Name" =>(k_here;k_dflt (refine' nameX_L ?F ?hv ?_ ?hk ?hx ?hd;(case hk=>exact rfl);(case hx=>exact rfl);(case hd=>decide);(case F=>k_asm);(case hv=>first|exact hl1|exact hl2|exact hl3|exact hl4|exact hl5)))
  k_with "compareOp Eq ref ref" =>(k_here;k_dflt (refine' Zlw ?N ?mt ?mv ?hK ?u ?_;(case N=>k_asm);(case mt=>k_mem);(case mv=>k_mem);(case hK=>first|exact Zgz hg (by with_reducible assumption)|exact Zgx hg (by with_reducible assumption));(case u=>ktr_units)))
  k_with "call ref" =>(k_here;(with_reducible show wpAny _ _ (call (Value.ref 88) _) _ _ _);k_dflt (refine' ZW (B:=?zB) (F:=?zF) (X:=?zX) (T:=?zT) (hk:=?zhk) (N:=?zN) (hdp:=?zhdp) (hun:=?zhun) (hm1:=?zhm1) (hm2:=?zhm2) (hS:=?zhS) (P:=?zP) (D:=?zD) (hb:=?zhb) (ret:=?_);k_extra "z6";(case zhS=>first|with_reducible assumption|k_asm);(case zP=>ktr_rel);(case zhm1=>k_mem);(case zhm2=>k_mem);(case zhb=>tb_start);(case zhdp=>ktr_room);(case zhun=>ktr_units);(case zD=>ktr_unf));intro i' t' TX' S' h' tk' hi' pre' len' hS' F' N' D';(try dsimp only))
  k_with "call ref" =>(k_here;(with_reducible show wpAny _ _ (call (Value.ref 1118) _) _ _ _);(with_reducible show wpAny _ _ (call _ [_,Value.str (PySem.Str.ofString "representation_error") _,_]) _ _ _);k_dflt (refine' Zcr (B:=?zB) (F:=?zF) (X:=?zX) (T:=?zT) (hk:=?zhk) (N:=?zN) (hdp:=?zhdp) (hun:=?zhun) (hm1:=?zhm1) (hm2:=?zhm2) (mlp:=?zmlp) (hS:=?zhS) (P:=?zP) (D:=?zD) (hb:=?zhb) (hb':=?zhb') (ret:=?_);k_extra "z6";(case zhS=>first|with_reducible assumption|k_asm);(case zP=>ktr_rel);(case zhm1=>k_mem);(case zhm2=>k_mem);(case zmlp=>k_mem);(case zhb=>tb_start);(case zhb'=>tb_start);(case zhdp=>ktr_room);(case zhun=>ktr_units);(case zD=>ktr_unf));intro t' TX' FN' S' TT' d1' dd' h' tk' F' N' D' hS' hdt' hw1' her' pre' len' pref' lenf';(try dsimp only))
  trivial
omit B F X T in
noncomputable def Jv {tg:Tgt}{sym sd tl an fl fn n:Nat}{jy:Hs}{c:Int}{tm:Nat}{t1 t2 tc:Tok}{TX:List Str}{FN:List (Int×Int)}{S news rest:List (Addr×Obj)}:Prop:=∀ (B:Below A₀ base outer h₀)(F:Fr h₀ L s.heap m)(X:(K w.params).In h₀)(T:Top p loose mean mg mb h₀)(N:News h₀ L s.heap news)(P:Tk ((tm,ZO tg t1 t2)::S) news rest)(hS:Zh w tl an fl fn TX FN S)(D:Za news)(hm1:(sym,instObj 154 sd)∈rest)(hm2:(sd,Zq jy tl an fl fn n)∈rest)(hg:ZF true tg)(hl1:m (Str.ofString "names")=some (.ref sym))(hl2:m (Str.ofString "target")=some (.ref tm))(hl3:m (Str.ofString "chars")=some (.bool true))(hl4:m (Str.ofString "ended")=some (.bool false))(hl5:m (Str.ofString "code")=some (.int c tc))(hc0:0≤c)(hb:TX.length<20000)(hb':FN.length<20000)(hdp:dp+45<recursionLimit)(hun:un+350<cLine)(rerr:∀ (t:Nat)(m':Str→Option Value)(TX':List Str)(FN':List (Int×Int))(S' TT':List (Addr×Obj))(d1 dd:W.Dat)(h':Heap)(tk':Nat),1114111<c→Fr h₀ L h' m'→News h₀ L h' (((tm,ZO tg t1 t2)::TT')++(S'++rest))→Za (((tm,ZO tg t1 t2)::TT')++(S'++rest)) →
      W.DatIn TT' (.ref t) (.tuple [.str (.ofString "error"),dd])→Zv TX' (.ofString "character") d1→ZG TX' FN' (.ofString "representation_error") [d1] dd→Zh w tl an fl fn TX' FN' S'→TX<+:TX'→TX'.length≤TX.length+2→FN<+:FN'→FN'.length≤FN.length+1→Qk (.ret (.ref t)) {s with heap:=h',toks:=tk'}) (rok:∀ (t:Nat) (m':Str→Option Value) (j:Int) (TX':List Str) (S' R:List (Addr×Obj)) (h':Heap) (tk':Nat),¬ 1114111<c→(∃ i:Nat,TX'[i]? = some (Zd6 c)∧j=i)→Fr h₀ L h' m'→News h₀ L h' (((tm,ZO tg t1 t2)::R)++(S'++rest))→Za (((tm,ZO tg t1 t2)::R)++(S'++rest)) →
      W.DatIn R (.ref t) (YA true tg j)→Zh w tl an fl fn TX' FN S'→TX<+:TX'→TX'.length≤TX.length+1→Qk (.ret (.ref t)) {s with heap:=h',toks:=tk'}),
   wpAny (model PR w) (ktrTop dp un gd (Str.ofString "_law_taken") Z7 L 1149 (aR 1148) [] outer) (execs (List.drop 7 U4) (envOf (Str.ofString "_law_taken") Z7 L 1149 (aR 1148))) Qk E s
noncomputable def YH (c:Zf):Prop:=@Jv (c.c 0) (c.d 0) (c.h 0) (c.k 0) (c.i 0) (c.i 1) (c.a 0) (c.a 1) (c.l 0) (c.q 0) (c.e 0) (c.j 0) (c.j 1) (c.a 2) (c.i 2) (c.f 0) (c.x 0) (c.g 0) (c.vd 0) (c.a 3) (c.a 4) (c.a 5) (c.a 6) (c.a 7) (c.a 8) (c.a 9) (c.vj 0) (c.m 0) (c.a 10) (c.o 0) (c.o 1) (c.o 2) (c.h 1) (c.t 0) (c.b 0) (c.b 1) (c.b 2)
omit B F X T in
noncomputable def Ju {tg:Tgt}{sym sd tl an fl fn n:Nat}{jy:Hs}{c:Int}{tm:Nat}{t1 t2 tc:Tok}{TX:List Str}{FN:List (Int×Int)}{S news rest:List (Addr×Obj)}:Prop:=∀ (B:Below A₀ base outer h₀)(F:Fr h₀ L s.heap m)(X:(K w.params).In h₀)(T:Top p loose mean mg mb h₀)(N:News h₀ L s.heap news)(P:Tk ((tm,ZO tg t1 t2)::S) news rest)(hS:Zh w tl an fl fn TX FN S)(D:Za news)(hm1:(sym,instObj 154 sd)∈rest)(hm2:(sd,Zq jy tl an fl fn n)∈rest)(hg:ZF false tg)(hl1:m (Str.ofString "names")=some (.ref sym))(hl2:m (Str.ofString "target")=some (.ref tm))(hl3:m (Str.ofString "chars")=some (.bool false))(hl4:m (Str.ofString "ended")=some (.bool false))(hl5:m (Str.ofString "code")=some (.int c tc))(hc0:0≤c)(hb:TX.length<20000)(hb':FN.length<20000)(hdp:dp+45<recursionLimit)(hun:un+350<cLine)(rerr:∀ (t:Nat)(m':Str→Option Value)(TX':List Str)(FN':List (Int×Int))(S' TT':List (Addr×Obj))(d1 dd:W.Dat)(h':Heap)(tk':Nat),1114111<c→Fr h₀ L h' m'→News h₀ L h' (((tm,ZO tg t1 t2)::TT')++(S'++rest))→Za (((tm,ZO tg t1 t2)::TT')++(S'++rest)) →
      W.DatIn TT' (.ref t) (.tuple [.str (.ofString "error"),dd])→Zv TX' (.ofString "character") d1→ZG TX' FN' (.ofString "representation_error") [d1] dd→Zh w tl an fl fn TX' FN' S'→TX<+:TX'→TX'.length≤TX.length+2→FN<+:FN'→FN'.length≤FN.length+1→Qk (.ret (.ref t)) {s with heap:=h',toks:=tk'}) (rok:∀ (t:Nat) (m':Str→Option Value) (j:Int) (TX':List Str) (S' R:List (Addr×Obj)) (h':Heap) (tk':Nat),¬ 1114111<c→j=c→Fr h₀ L h' m'→News h₀ L h' (((tm,ZO tg t1 t2)::R)++(S'++rest))→Za (((tm,ZO tg t1 t2)::R)++(S'++rest)) →
      W.DatIn R (.ref t) (YA false tg j)→Zh w tl an fl fn TX' FN S'→TX<+:TX'→TX'.length≤TX.length+1→Qk (.ret (.ref t)) {s with heap:=h',toks:=tk'}),
   wpAny (model PR w) (ktrTop dp un gd (Str.ofString "_law_taken") Z7 L 1149 (aR 1148) [] outer) (execs (List.drop 7 U4) (envOf (Str.ofString "_law_taken") Z7 L 1149 (aR 1148))) Qk E s
noncomputable def YG (c:Zf):Prop:=@Ju (c.c 0) (c.d 0) (c.h 0) (c.k 0) (c.i 0) (c.i 1) (c.a 0) (c.a 1) (c.l 0) (c.q 0) (c.e 0) (c.j 0) (c.j 1) (c.a 2) (c.i 2) (c.f 0) (c.x 0) (c.g 0) (c.vd 0) (c.a 3) (c.a 4) (c.a 5) (c.a 6) (c.a 7) (c.a 8) (c.a 9) (c.vj 0) (c.m 0) (c.a 10) (c.o 0) (c.o 1) (c.o 2) (c.h 1) (c.t 0) (c.b 0) (c.b 1) (c.b 2)
omit B F X T in
noncomputable def Jx {tg:Tgt}{sym sd tl an fl fn n:Nat}{jy:Hs}{c:Int}{tm:Nat}{t1 t2 tc:Tok}{TX:List Str}{FN:List (Int×Int)}{S news rest:List (Addr×Obj)}:Prop:=∀ (B:Below A₀ base outer h₀)(F:Fr h₀ L s.heap m)(X:(K w.params).In h₀)(T:Top p loose mean mg mb h₀)(N:News h₀ L s.heap news)(P:Tk ((tm,ZO tg t1 t2)::S) news rest)(hS:Zh w tl an fl fn TX FN S)(D:Za news)(hm1:(sym,instObj 154 sd)∈rest)(hm2:(sd,Zq jy tl an fl fn n)∈rest)(hg:ZF true tg)(hl1:m (Str.ofString "names")=some (.ref sym))(hl2:m (Str.ofString "target")=some (.ref tm))(hl3:m (Str.ofString "chars")=some (.bool true))(hl4:m (Str.ofString "ended")=some (.bool true))(hl5:m (Str.ofString "code")=some (.int c tc))(hb:TX.length<20000)(hb':FN.length<20000)(hdp:dp+45<recursionLimit)(hun:un+350<cLine)(rok:∀ (t:Nat)(m':Str→Option Value)(j:Int)(TX':List Str)(S' R:List (Addr×Obj))(h':Heap)(tk':Nat),j=24→Fr h₀ L h' m'→News h₀ L h' (((tm,ZO tg t1 t2)::R)++(S'++rest))→Za (((tm,ZO tg t1 t2)::R)++(S'++rest)) →
      W.DatIn R (.ref t) (YA true tg j)→Zh w tl an fl fn TX' FN S'→TX<+:TX'→TX'.length≤TX.length+1→Qk (.ret (.ref t)) {s with heap:=h',toks:=tk'}),
   wpAny (model PR w) (ktrTop dp un gd (Str.ofString "_law_taken") Z7 L 1149 (aR 1148) [] outer) (execs (List.drop 7 U4) (envOf (Str.ofString "_law_taken") Z7 L 1149 (aR 1148))) Qk E s
noncomputable def YJ (c:Zf):Prop:=@Jx (c.c 0) (c.d 0) (c.h 0) (c.k 0) (c.i 0) (c.i 1) (c.a 0) (c.a 1) (c.l 0) (c.q 0) (c.e 0) (c.j 0) (c.j 1) (c.a 2) (c.i 2) (c.f 0) (c.x 0) (c.g 0) (c.vd 0) (c.a 3) (c.a 4) (c.a 5) (c.a 6) (c.a 7) (c.a 8) (c.a 9) (c.vj 0) (c.m 0) (c.a 10) (c.o 0) (c.o 1) (c.o 2) (c.h 1) (c.t 0) (c.b 0) (c.b 1) (c.b 2)
omit B F X T in
noncomputable def Jw {tg:Tgt}{sym sd tl an fl fn n:Nat}{jy:Hs}{c:Int}{tm:Nat}{t1 t2 tc:Tok}{TX:List Str}{FN:List (Int×Int)}{S news rest:List (Addr×Obj)}:Prop:=∀ (B:Below A₀ base outer h₀)(F:Fr h₀ L s.heap m)(X:(K w.params).In h₀)(T:Top p loose mean mg mb h₀)(N:News h₀ L s.heap news)(P:Tk ((tm,ZO tg t1 t2)::S) news rest)(hS:Zh w tl an fl fn TX FN S)(D:Za news)(hm1:(sym,instObj 154 sd)∈rest)(hm2:(sd,Zq jy tl an fl fn n)∈rest)(hg:ZF false tg)(hl1:m (Str.ofString "names")=some (.ref sym))(hl2:m (Str.ofString "target")=some (.ref tm))(hl3:m (Str.ofString "chars")=some (.bool false))(hl4:m (Str.ofString "ended")=some (.bool true))(hl5:m (Str.ofString "code")=some (.int c tc))(hb:TX.length<20000)(hb':FN.length<20000)(hdp:dp+45<recursionLimit)(hun:un+350<cLine)(rok:∀ (t:Nat)(m':Str→Option Value)(j:Int)(TX':List Str)(S' R:List (Addr×Obj))(h':Heap)(tk':Nat),j=c→Fr h₀ L h' m'→News h₀ L h' (((tm,ZO tg t1 t2)::R)++(S'++rest))→Za (((tm,ZO tg t1 t2)::R)++(S'++rest)) →
      W.DatIn R (.ref t) (YA false tg j)→Zh w tl an fl fn TX' FN S'→TX<+:TX'→TX'.length≤TX.length+1→Qk (.ret (.ref t)) {s with heap:=h',toks:=tk'}),
   wpAny (model PR w) (ktrTop dp un gd (Str.ofString "_law_taken") Z7 L 1149 (aR 1148) [] outer) (execs (List.drop 7 U4) (envOf (Str.ofString "_law_taken") Z7 L 1149 (aR 1148))) Qk E s
noncomputable def YI (c:Zf):Prop:=@Jw (c.c 0) (c.d 0) (c.h 0) (c.k 0) (c.i 0) (c.i 1) (c.a 0) (c.a 1) (c.l 0) (c.q 0) (c.e 0) (c.j 0) (c.j 1) (c.a 2) (c.i 2) (c.f 0) (c.x 0) (c.g 0) (c.vd 0) (c.a 3) (c.a 4) (c.a 5) (c.a 6) (c.a 7) (c.a 8) (c.a 9) (c.vj 0) (c.m 0) (c.a 10) (c.o 0) (c.o 1) (c.o 2) (c.h 1) (c.t 0) (c.b 0) (c.b 1) (c.b 2)
noncomputable def Z4:Zf:=ZM Zj fun c=>YH c∧YG c∧YJ c∧YI c
omit B F X T in
theorem Za3:YH Z4:=by
  delta YH
  exists Zf.c _ _,w
  exists Zf.d _ _,p
  exists Zf.h _ _,loose,TX
  exists Zf.k _ _,mean
  exists Zf.i _ _,mg,mb,m
  exists Zf.a _ _,dp,un,L,sym,sd,tl,an,fl,fn,n,tm
  exists Zf.l _ _,gd
  exists Zf.q _ _,outer
  exists Zf.e _ _,A₀
  exists Zf.j _ _,base,h₀
  exists Zf.f _ _,s
  exists Zf.x _ _,Qk
  exists Zf.g _ _,E
  exists Zf.vd _ _,tg
  exists Zf.vj _ _,jy
  exists Zf.m _ _,c
  exists Zf.o _ _,t1,t2,tc
  exists Zf.t _ _,FN
  exists Zf.b _ _,S,news,rest
  intro B F X T N P hS D hm1 hm2 hg hl1 hl2 hl3 hl4 hl5 hc0 hb hb' hdp hun rerr rok
  delta Zq at *
  have N₁:News h₀ L s.heap ((tm,ZO tg t1 t2)::(S++rest)):=Ze N P.perm
  have D₁:Za ((tm,ZO tg t1 t2)::(S++rest)):=D.perm P.perm
  clear N D P
  k_steps
  · rename News _ _ _ _=>nN
    have nD:=Zd nN (by ktr_unf)
    exact rerr t' _ TX' FN' S' TT' d1' dd' h' tk' (by assumption) (by k_asm) (Zc nN (by ktr_rel)) (Zb nD (by ktr_rel)) hdt' hw1' her' hS' (by assumption) (by tb_start) (by assumption) (by tb_start)
  · rename News _ _ _ _=>nN
    have nD:=Zd nN (by ktr_unf)
    exact rok _ _ i' _ _ [_,_,_] _ _ (by assumption) ⟨i',hi',rfl⟩ (by k_asm) (Zc nN (by ktr_rel)) (Zb nD (by ktr_rel)) (Zz (ZaT (by assumption)) (DatIn.tuple (.head _) (.cons (.str _ _) (.cons (DatIn.list (.tail _ (.head _)) (.cons (DatIn.tuple (.tail _ (.tail _ (.head _))) (.cons (.str _ _) (.cons (.int _ _) .nil))) .nil)) .nil)))) hS' (by assumption) (by tb_start)
  · rename News _ _ _ _=>nN
    have nD:=Zd nN (by ktr_unf)
    exact rok _ _ i' _ _ [_,_] _ _ (by assumption) ⟨i',hi',rfl⟩ (by k_asm) (Zc nN (by ktr_rel)) (Zb nD (by ktr_rel)) (Zz (ZaS (by assumption) (by assumption)) (DatIn.tuple (.head _) (.cons (.str _ _) (.cons (DatIn.list (.tail _ (.head _)) .nil) .nil)))) hS' (by assumption) (by tb_start)
  · rename News _ _ _ _=>nN
    have nD:=Zd nN (by ktr_unf)
    exact rok _ _ i' _ _ [_,_] _ _ (by assumption) ⟨i',hi',rfl⟩ (by k_asm) (Zc nN (by ktr_rel)) (Zb nD (by ktr_rel)) (Zz (ZaU (by assumption) (by assumption)) (DatIn.tuple (.head _) (.cons (.str _ _) (.cons (DatIn.list (.tail _ (.head _)) .nil) .nil)))) hS' (by assumption) (by tb_start)
omit B F X T in
theorem Za2:YG Z4:=by
  delta YG
  exists Zf.c _ _,w
  exists Zf.d _ _,p
  exists Zf.h _ _,loose,TX
  exists Zf.k _ _,mean
  exists Zf.i _ _,mg,mb,m
  exists Zf.a _ _,dp,un,L,sym,sd,tl,an,fl,fn,n,tm
  exists Zf.l _ _,gd
  exists Zf.q _ _,outer
  exists Zf.e _ _,A₀
  exists Zf.j _ _,base,h₀
  exists Zf.f _ _,s
  exists Zf.x _ _,Qk
  exists Zf.g _ _,E
  exists Zf.vd _ _,tg
  exists Zf.vj _ _,jy
  exists Zf.m _ _,c
  exists Zf.o _ _,t1,t2,tc
  exists Zf.t _ _,FN
  exists Zf.b _ _,S,news,rest
  intro B F X T N P hS D hm1 hm2 hg hl1 hl2 hl3 hl4 hl5 hc0 hb hb' hdp hun rerr rok
  delta Zq at *
  have N₁:News h₀ L s.heap ((tm,ZO tg t1 t2)::(S++rest)):=Ze N P.perm
  have D₁:Za ((tm,ZO tg t1 t2)::(S++rest)):=D.perm P.perm
  clear N D P
  k_steps
  · rename News _ _ _ _=>nN
    have nD:=Zd nN (by ktr_unf)
    exact rerr t' _ TX' FN' S' TT' d1' dd' h' tk' (by assumption) (by k_asm) (Zc nN (by ktr_rel)) (Zb nD (by ktr_rel)) hdt' hw1' her' hS' (by assumption) (by tb_start) (by assumption) (by tb_start)
  · rename News _ _ _ _=>nN
    have nD:=Zd nN (by ktr_unf)
    exact rok _ _ c _ _ [_,_,_] _ _ (by assumption) rfl (by k_asm) (Zc nN (by ktr_rel)) (Zb nD (by ktr_rel)) (Zz (ZaT (by assumption)) (DatIn.tuple (.head _) (.cons (.str _ _) (.cons (DatIn.list (.tail _ (.head _)) (.cons (DatIn.tuple (.tail _ (.tail _ (.head _))) (.cons (.str _ _) (.cons (.int _ _) .nil))) .nil)) .nil)))) hS (List.prefix_refl _) (by tb_start)
  · rename News _ _ _ _=>nN
    have nD:=Zd nN (by ktr_unf)
    exact rok _ _ c _ _ [_,_] _ _ (by assumption) rfl (by k_asm) (Zc nN (by ktr_rel)) (Zb nD (by ktr_rel)) (Zz (ZaS (by assumption) (by assumption)) (DatIn.tuple (.head _) (.cons (.str _ _) (.cons (DatIn.list (.tail _ (.head _)) .nil) .nil)))) hS (List.prefix_refl _) (by tb_start)
  · rename News _ _ _ _=>nN
    have nD:=Zd nN (by ktr_unf)
    exact rok _ _ c _ _ [_,_] _ _ (by assumption) rfl (by k_asm) (Zc nN (by ktr_rel)) (Zb nD (by ktr_rel)) (Zz (ZaU (by assumption) (by assumption)) (DatIn.tuple (.head _) (.cons (.str _ _) (.cons (DatIn.list (.tail _ (.head _)) .nil) .nil)))) hS (List.prefix_refl _) (by tb_start)
omit B F X T in
theorem Za5:YJ Z4:=by
  delta YJ
  exists Zf.c _ _,w
  exists Zf.d _ _,p
  exists Zf.h _ _,loose,TX
  exists Zf.k _ _,mean
  exists Zf.i _ _,mg,mb,m
  exists Zf.a _ _,dp,un,L,sym,sd,tl,an,fl,fn,n,tm
  exists Zf.l _ _,gd
  exists Zf.q _ _,outer
  exists Zf.e _ _,A₀
  exists Zf.j _ _,base,h₀
  exists Zf.f _ _,s
  exists Zf.x _ _,Qk
  exists Zf.g _ _,E
  exists Zf.vd _ _,tg
  exists Zf.vj _ _,jy
  exists Zf.m _ _,c
  exists Zf.o _ _,t1,t2,tc
  exists Zf.t _ _,FN
  exists Zf.b _ _,S,news,rest
  intro B F X T N P hS D hm1 hm2 hg hl1 hl2 hl3 hl4 hl5 hb hb' hdp hun rok
  delta Zq at *
  have N₁:News h₀ L s.heap ((tm,ZO tg t1 t2)::(S++rest)):=Ze N P.perm
  have D₁:Za ((tm,ZO tg t1 t2)::(S++rest)):=D.perm P.perm
  clear N D P
  k_steps
  · rename News _ _ _ _=>nN
    have nD:=Zd nN (by ktr_unf)
    exact rok _ _ 24 _ _ [_,_,_] _ _ rfl (by k_asm) (Zc nN (by ktr_rel)) (Zb nD (by ktr_rel)) (Zz (ZaT (by assumption)) (DatIn.tuple (.head _) (.cons (.str _ _) (.cons (DatIn.list (.tail _ (.head _)) (.cons (DatIn.tuple (.tail _ (.tail _ (.head _))) (.cons (.str _ _) (.cons (.int _ _) .nil))) .nil)) .nil)))) hS (List.prefix_refl _) (by tb_start)
  · rename News _ _ _ _=>nN
    have nD:=Zd nN (by ktr_unf)
    exact rok _ _ 24 _ _ [_,_] _ _ rfl (by k_asm) (Zc nN (by ktr_rel)) (Zb nD (by ktr_rel)) (Zz (ZaS (by assumption) (by assumption)) (DatIn.tuple (.head _) (.cons (.str _ _) (.cons (DatIn.list (.tail _ (.head _)) .nil) .nil)))) hS (List.prefix_refl _) (by tb_start)
  · rename News _ _ _ _=>nN
    have nD:=Zd nN (by ktr_unf)
    exact rok _ _ 24 _ _ [_,_] _ _ rfl (by k_asm) (Zc nN (by ktr_rel)) (Zb nD (by ktr_rel)) (Zz (ZaU (by assumption) (by assumption)) (DatIn.tuple (.head _) (.cons (.str _ _) (.cons (DatIn.list (.tail _ (.head _)) .nil) .nil)))) hS (List.prefix_refl _) (by tb_start)
omit B F X T in
theorem Za4:YI Z4:=by
  delta YI
  exists Zf.c _ _,w
  exists Zf.d _ _,p
  exists Zf.h _ _,loose,TX
  exists Zf.k _ _,mean
  exists Zf.i _ _,mg,mb,m
  exists Zf.a _ _,dp,un,L,sym,sd,tl,an,fl,fn,n,tm
  exists Zf.l _ _,gd
  exists Zf.q _ _,outer
  exists Zf.e _ _,A₀
  exists Zf.j _ _,base,h₀
  exists Zf.f _ _,s
  exists Zf.x _ _,Qk
  exists Zf.g _ _,E
  exists Zf.vd _ _,tg
  exists Zf.vj _ _,jy
  exists Zf.m _ _,c
  exists Zf.o _ _,t1,t2,tc
  exists Zf.t _ _,FN
  exists Zf.b _ _,S,news,rest
  intro B F X T N P hS D hm1 hm2 hg hl1 hl2 hl3 hl4 hl5 hb hb' hdp hun rok
  delta Zq at *
  have N₁:News h₀ L s.heap ((tm,ZO tg t1 t2)::(S++rest)):=Ze N P.perm
  have D₁:Za ((tm,ZO tg t1 t2)::(S++rest)):=D.perm P.perm
  clear N D P
  k_steps
  · rename News _ _ _ _=>nN
    have nD:=Zd nN (by ktr_unf)
    exact rok _ _ c _ _ [_,_,_] _ _ rfl (by k_asm) (Zc nN (by ktr_rel)) (Zb nD (by ktr_rel)) (Zz (ZaT (by assumption)) (DatIn.tuple (.head _) (.cons (.str _ _) (.cons (DatIn.list (.tail _ (.head _)) (.cons (DatIn.tuple (.tail _ (.tail _ (.head _))) (.cons (.str _ _) (.cons (.int _ _) .nil))) .nil)) .nil)))) hS (List.prefix_refl _) (by tb_start)
  · rename News _ _ _ _=>nN
    have nD:=Zd nN (by ktr_unf)
    exact rok _ _ c _ _ [_,_] _ _ rfl (by k_asm) (Zc nN (by ktr_rel)) (Zb nD (by ktr_rel)) (Zz (ZaS (by assumption) (by assumption)) (DatIn.tuple (.head _) (.cons (.str _ _) (.cons (DatIn.list (.tail _ (.head _)) .nil) .nil)))) hS (List.prefix_refl _) (by tb_start)
  · rename News _ _ _ _=>nN
    have nD:=Zd nN (by ktr_unf)
    exact rok _ _ c _ _ [_,_] _ _ rfl (by k_asm) (Zc nN (by ktr_rel)) (Zb nD (by ktr_rel)) (Zz (ZaU (by assumption) (by assumption)) (DatIn.tuple (.head _) (.cons (.str _ _) (.cons (DatIn.list (.tail _ (.head _)) .nil) .nil)))) hS (List.prefix_refl _) (by tb_start)
omit B F X T in
theorem ZZ:∀ c:Zf,YH c∧YG c∧YJ c∧YI c:=ZN (k:=Z4) rfl ⟨Za3,Za2,Za5,Za4⟩
omit B F X T in
theorem Zew {tg sym sd tl an fl fn n jy c tm t1 t2 tc TX FN S news rest}:@Jv w p loose mean mg mb dp un gd outer A₀ base h₀ L m s Qk E tg sym sd tl an fl fn n jy c tm t1 t2 tc TX FN S news rest:=(ZZ (dC |>.sc (gt dC.c [w]) |>.sd (gt dC.d [p]) |>.sh (gt dC.h [loose,TX]) |>.sk (gt dC.k [mean]) |>.si (gt dC.i [mg,mb,m]) |>.sa (gt dC.a [dp,un,L,sym,sd,tl,an,fl,fn,n,tm]) |>.sl (gt dC.l [gd]) |>.sq (gt dC.q [outer]) |>.se (gt dC.e [A₀]) |>.sj (gt dC.j [base,h₀]) |>.sf (gt dC.f [s]) |>.sx (gt dC.x [Qk]) |>.sg (gt dC.g [E]) |>.svd (gt dC.vd [tg]) |>.svj (gt dC.vj [jy]) |>.sm (gt dC.m [c]) |>.so (gt dC.o [t1,t2,tc]) |>.st (gt dC.t [FN]) |>.sb (gt dC.b [S,news,rest]))).1
omit B F X T in
theorem Zev {tg sym sd tl an fl fn n jy c tm t1 t2 tc TX FN S news rest}:@Ju w p loose mean mg mb dp un gd outer A₀ base h₀ L m s Qk E tg sym sd tl an fl fn n jy c tm t1 t2 tc TX FN S news rest:=(ZZ (dC |>.sc (gt dC.c [w]) |>.sd (gt dC.d [p]) |>.sh (gt dC.h [loose,TX]) |>.sk (gt dC.k [mean]) |>.si (gt dC.i [mg,mb,m]) |>.sa (gt dC.a [dp,un,L,sym,sd,tl,an,fl,fn,n,tm]) |>.sl (gt dC.l [gd]) |>.sq (gt dC.q [outer]) |>.se (gt dC.e [A₀]) |>.sj (gt dC.j [base,h₀]) |>.sf (gt dC.f [s]) |>.sx (gt dC.x [Qk]) |>.sg (gt dC.g [E]) |>.svd (gt dC.vd [tg]) |>.svj (gt dC.vj [jy]) |>.sm (gt dC.m [c]) |>.so (gt dC.o [t1,t2,tc]) |>.st (gt dC.t [FN]) |>.sb (gt dC.b [S,news,rest]))).2.1
omit B F X T in
theorem Zey {tg sym sd tl an fl fn n jy c tm t1 t2 tc TX FN S news rest}:@Jx w p loose mean mg mb dp un gd outer A₀ base h₀ L m s Qk E tg sym sd tl an fl fn n jy c tm t1 t2 tc TX FN S news rest:=(ZZ (dC |>.sc (gt dC.c [w]) |>.sd (gt dC.d [p]) |>.sh (gt dC.h [loose,TX]) |>.sk (gt dC.k [mean]) |>.si (gt dC.i [mg,mb,m]) |>.sa (gt dC.a [dp,un,L,sym,sd,tl,an,fl,fn,n,tm]) |>.sl (gt dC.l [gd]) |>.sq (gt dC.q [outer]) |>.se (gt dC.e [A₀]) |>.sj (gt dC.j [base,h₀]) |>.sf (gt dC.f [s]) |>.sx (gt dC.x [Qk]) |>.sg (gt dC.g [E]) |>.svd (gt dC.vd [tg]) |>.svj (gt dC.vj [jy]) |>.sm (gt dC.m [c]) |>.so (gt dC.o [t1,t2,tc]) |>.st (gt dC.t [FN]) |>.sb (gt dC.b [S,news,rest]))).2.2.1
omit B F X T in
theorem Zex {tg sym sd tl an fl fn n jy c tm t1 t2 tc TX FN S news rest}:@Jw w p loose mean mg mb dp un gd outer A₀ base h₀ L m s Qk E tg sym sd tl an fl fn n jy c tm t1 t2 tc TX FN S news rest:=(ZZ (dC |>.sc (gt dC.c [w]) |>.sd (gt dC.d [p]) |>.sh (gt dC.h [loose,TX]) |>.sk (gt dC.k [mean]) |>.si (gt dC.i [mg,mb,m]) |>.sa (gt dC.a [dp,un,L,sym,sd,tl,an,fl,fn,n,tm]) |>.sl (gt dC.l [gd]) |>.sq (gt dC.q [outer]) |>.se (gt dC.e [A₀]) |>.sj (gt dC.j [base,h₀]) |>.sf (gt dC.f [s]) |>.sx (gt dC.x [Qk]) |>.sg (gt dC.g [E]) |>.svd (gt dC.vd [tg]) |>.svj (gt dC.vj [jy]) |>.sm (gt dC.m [c]) |>.so (gt dC.o [t1,t2,tc]) |>.st (gt dC.t [FN]) |>.sb (gt dC.b [S,news,rest]))).2.2.2
end
end
theorem Zna:True:=by
  walk_at "RST"
  walk_at "G dct"
  walk_at "G loop"
  walk_at "G der"
  walk_at "G LawC"
  trivial
section
variable {w:World}{p:Program}{loose:List Str}{mean:ExcName→Option Value}{mg mb:Str→Option Value}
   {dp un:Nat}{gd:Option (List Code)}{outer:List Env}{A₀:Around}{base h₀:Heap}{L:Addr}{m:Str→Option Value}{s:Shared}{Qk:Flow→Shared→Prop}{E:Value→Shared→Prop}
   (B:Below A₀ base outer h₀)(F:Fr h₀ L s.heap m)(X:(K w.params).In h₀)(T:Top p loose mean mg mb h₀)
include B F X T
theorem Zm9:True:=by
  walk_at "G slim"
  k_with "execs cons" =>((with_reducible show wpAny _ _ (execs (Stmt.If (Expr.BoolOp BoolOp.And (Expr.UnaryOp UnaryOp.Not _ _::_) _) _ _ _::_) _) _ _ _);refine UD ?_)
  k_with "eval Name" =>(k_here;k_dflt (refine' nameX_L ?F ?hv ?_ ?hk ?hx ?hd;(case hk=>exact rfl);(case hx=>exact rfl);(case hd=>decide);(case F=>k_asm);(case hv=>first|exact hl1|exact hl2|exact hl3|exact hl4|exact hl5)))
  k_with "call ref" =>(k_here;(with_reducible show wpAny _ _ (call (Value.ref 109) _) _ _ _);k_dflt (refine' ZQ (B:=?zB) (F:=?zF) (X:=?zX) (T:=?zT) (hk:=?zhk) (N:=?zN) (hdp:=?zhdp) (hun:=?zhun) (hm1:=?zhm1) (hm2:=?zhm2) (hS:=?zhS) (P:=?zP) (D:=?zD) (hb:=?zhb) (hb':=?zhb') (ret:=?_);k_extra "z6";(case zhS=>first|with_reducible assumption|k_asm);(case zP=>ktr_rel);(case zhm1=>k_mem);(case zhm2=>k_mem);(case zhb=>tb_start);(case zhb'=>tb_start);(case zhdp=>ktr_room);(case zhun=>ktr_units);(case zD=>ktr_unf));intro i' t' ia' TX' FN' S' h' tk' hia' hi' pre' len' pref' lenf' hS' F' N' D';(try dsimp only))
  k_with "call ref" =>(k_here;(with_reducible show wpAny _ _ (call (Value.ref 1118) _) _ _ _);(with_reducible show wpAny _ _ (call _ [_,Value.str (PySem.Str.ofString "permission_error") _,_]) _ _ _);k_dflt (refine' Zgv (B:=?zB) (F:=?zF) (X:=?zX) (T:=?zT) (hk:=?zhk) (N:=?zN) (hdp:=?zhdp) (hun:=?zhun) (hm1:=?zhm1) (hm2:=?zhm2) (hS:=?zhS) (P:=?zP) (D:=?zD) (mlp:=?zmlp) (hc:=?zhc) (hcd:=?zhcd) (hko:=?zhko) (hb:=?zhb) (hb':=?zhb') (ret:=?_);k_extra "z6";(case zhS=>first|with_reducible assumption|k_asm);(case zP=>exact ZbK (by ktr_rel));(case zhm1=>k_mem);(case zhm2=>k_mem);(case zmlp=>k_mem);(case zhc=>k_mem);(case zhcd=>kqd_in);(case zhko=>exact kqs);(case zhb=>tb_start);(case zhb'=>tb_start);(case zhdp=>ktr_room);(case zhun=>ktr_units);(case zD=>ktr_unf));intro t' TX' FN' S' TT' d1' d2' dd' h' tk' F' N' D' hS' hdt' hw1' hw2' her' pre' len' pref' lenf';(try dsimp only))
  trivial
omit B F X T in
noncomputable def GQ {mv:Bool}{sym wl wi gj ge:Nat}{owl owi:Obj}{kwl:List (Str×Value)}{kwi:List (Int×Value)}{gv:List Value}{sn wj we idx:Nat}{past:Bool}{act:Str}{codes:List Int}{ti ta tn:Tok}{S news rest:List (Addr×Obj)}:Prop:=∀ (B:Below A₀ base outer h₀)(F:Fr h₀ L s.heap m)(X:(K w.params).In h₀)(T:Top p loose mean mg mb h₀)(N:News h₀ L s.heap news)(P:Tk ((wj,Zg gj idx past act ti ta we)::S) news rest)(D:Za news)(mw1:(wl,owl)∈rest)(hwl:owl.IsDictOf (strKind PR w) kwl)(hwk:valueAt kwl (Str.ofString "in")=some (.ref wi))(mw2:(wi,owi)∈rest)(hwi:owi.IsDictOf (intKind PR w) kwi)(hwv:valueAt kwi (sn:Int)=some (.ref wj))(mgv:(gj,W.listOf gv.toArray ge)∈rest)(hg:IntsAre gv codes)(hlen:codes.length<50)(hidx:idx<900)(hlt:idx<codes.length)(hl1:m (Str.ofString "names")=some (.ref sym))(hl2:m (Str.ofString "world")=some (.ref wl))(hl3:m (Str.ofString "number")=some (.int sn tn))(hl4:m (Str.ofString "moves")=some (.bool mv))(hdp:dp+45<recursionLimit)(hun:un+350<cLine)(nx:∀ (we' idx':Nat)(past':Bool)(ti' tc:Tok)(m':Str→Option Value)(h':Heap)(tk':Nat),idx'=Zt mv codes.length idx→past'=Zs mv past codes.length idx→Fr h₀ L h' m'→m' (Str.ofString "ended")=some (.bool false)→m' (Str.ofString "code")=some (.int (codes.getD idx (-1)) tc)→m' (Str.ofString "names")=m (Str.ofString "names")→m' (Str.ofString "target")=m (Str.ofString "target")→m' (Str.ofString "chars")=m (Str.ofString "chars") →
      News h₀ L h' ((wj,Zg gj idx' past' act ti' ta we')::(S++rest))→Za ((wj,Zg gj idx' past' act ti' ta we')::(S++rest)) →
      wpAny (model PR w) (ktrTop dp un gd (Str.ofString "_law_taken") Z7 L 1149 (aR 1148) [] outer) (execs (List.drop 7 U4) (envOf (Str.ofString "_law_taken") Z7 L 1149 (aR 1148))) Qk E {s with heap:=h',toks:=tk'}),
   wpAny (model PR w) (ktrTop dp un gd (Str.ofString "_law_taken") Z7 L 1149 (aR 1148) [] outer) (execs (List.drop 2 U4) (envOf (Str.ofString "_law_taken") Z7 L 1149 (aR 1148))) Qk E s
noncomputable def Ve (c:Zf):Prop:=@GQ (c.c 0) (c.d 0) (c.h 0) (c.k 0) (c.i 0) (c.i 1) (c.a 0) (c.a 1) (c.l 0) (c.q 0) (c.e 0) (c.j 0) (c.j 1) (c.a 2) (c.i 2) (c.f 0) (c.x 0) (c.g 0) (c.z 0) (c.a 3) (c.a 4) (c.a 5) (c.a 6) (c.a 7) (c.v 0) (c.v 1) (c.va 0) (c.y 0) (c.u 0) (c.a 8) (c.a 9) (c.a 10) (c.a 11) (c.z 1) (c.n 0) (c.w 0) (c.o 0) (c.o 1) (c.o 2) (c.b 0) (c.b 1) (c.b 2)
omit B F X T in
noncomputable def GR {mv:Bool}{sym sd tl an fl fn n:Nat}{jy:Hs}{wl wi gj ge:Nat}{owl owi:Obj}{kwl:List (Str×Value)}{kwi:List (Int×Value)}{gv:List Value}{sn wj we idx:Nat}{past:Bool}{act:Str}{codes:List Int}{ti ta tn:Tok}{TX:List Str}{FN:List (Int×Int)}{S news rest:List (Addr×Obj)}:Prop:=∀ (B:Below A₀ base outer h₀)(F:Fr h₀ L s.heap m)(X:(K w.params).In h₀)(T:Top p loose mean mg mb h₀)(N:News h₀ L s.heap news)(P:Tk ((wj,Zg gj idx past act ti ta we)::S) news rest)(D:Za news)(hS:Zh w tl an fl fn TX FN S)(hm1:(sym,instObj 154 sd)∈rest)(hm2:(sd,Zq jy tl an fl fn n)∈rest)(mw1:(wl,owl)∈rest)(hwl:owl.IsDictOf (strKind PR w) kwl)(hwk:valueAt kwl (Str.ofString "in")=some (.ref wi))(mw2:(wi,owi)∈rest)(hwi:owi.IsDictOf (intKind PR w) kwi)(hwv:valueAt kwi (sn:Int)=some (.ref wj))(mgv:(gj,W.listOf gv.toArray ge)∈rest)(hg:IntsAre gv codes)(hlen:codes.length<50)(hidx:idx<900)(hle:codes.length≤idx)(hb:TX.length<20000)(hb1:FN.length<20000)(hl1:m (Str.ofString "names")=some (.ref sym))(hl2:m (Str.ofString "world")=some (.ref wl))(hl3:m (Str.ofString "number")=some (.int sn tn))(hl4:m (Str.ofString "moves")=some (.bool mv))(hdp:dp+45<recursionLimit)(hun:un+350<cLine)(rerr:∀ (t we':Nat)(m':Str→Option Value)(ti':Tok)(TX':List Str)(FN':List (Int×Int))(S' TT':List (Addr×Obj))(d1 d2 dd:W.Dat)(f i1:Nat)(h':Heap)(tk':Nat),past=true→(act==Str.ofString "error")=true→Fr h₀ L h' m'→News h₀ L h' (TT'++((wj,Zg gj idx past act ti' ta we')::(S'++rest)))→Za (TT'++((wj,Zg gj idx past act ti' ta we')::(S'++rest))) →
      W.DatIn TT' (.ref t) (.tuple [.str (.ofString "error"),dd])→Zv TX' (.ofString "input") d1→Zv TX' (.ofString "past_end_of_stream") d2→TX'[i1]? = some (.ofString "$stream")→FN'[f]? = some ((i1:Int),1)→ZG TX' FN' (.ofString "permission_error") [d1,d2,YU f [UZ sn]] dd→Zh w tl an fl fn TX' FN' S'→TX<+:TX'→TX'.length≤TX.length+6→FN<+:FN'→FN'.length≤FN.length+3→Qk (.ret (.ref t)) {s with heap:=h',toks:=tk'}) (nx:∀ (we' idx':Nat) (past':Bool) (ti' tc:Tok) (m':Str→Option Value) (h':Heap) (tk':Nat),(past=false∨(act==Str.ofString "error")=false)→idx'=Zt mv codes.length idx→past'=Zs mv past codes.length idx→Fr h₀ L h' m'→m' (Str.ofString "ended")=some (.bool true)→m' (Str.ofString "code")=some (.int (-1) tc)→m' (Str.ofString "names")=m (Str.ofString "names")→m' (Str.ofString "target")=m (Str.ofString "target")→m' (Str.ofString "chars")=m (Str.ofString "chars") →
      News h₀ L h' ((wj,Zg gj idx' past' act ti' ta we')::(S++rest))→Za ((wj,Zg gj idx' past' act ti' ta we')::(S++rest)) →
      wpAny (model PR w) (ktrTop dp un gd (Str.ofString "_law_taken") Z7 L 1149 (aR 1148) [] outer) (execs (List.drop 7 U4) (envOf (Str.ofString "_law_taken") Z7 L 1149 (aR 1148))) Qk E {s with heap:=h',toks:=tk'}),
   wpAny (model PR w) (ktrTop dp un gd (Str.ofString "_law_taken") Z7 L 1149 (aR 1148) [] outer) (execs (List.drop 2 U4) (envOf (Str.ofString "_law_taken") Z7 L 1149 (aR 1148))) Qk E s
noncomputable def Vf (c:Zf):Prop:=@GR (c.c 0) (c.d 0) (c.h 0) (c.k 0) (c.i 0) (c.i 1) (c.a 0) (c.a 1) (c.l 0) (c.q 0) (c.e 0) (c.j 0) (c.j 1) (c.a 2) (c.i 2) (c.f 0) (c.x 0) (c.g 0) (c.z 0) (c.a 3) (c.a 4) (c.a 5) (c.a 6) (c.a 7) (c.a 8) (c.a 9) (c.vj 0) (c.a 10) (c.a 11) (c.a 12) (c.a 13) (c.v 0) (c.v 1) (c.va 0) (c.y 0) (c.u 0) (c.a 14) (c.a 15) (c.a 16) (c.a 17) (c.z 1) (c.n 0) (c.w 0) (c.o 0) (c.o 1) (c.o 2) (c.h 1) (c.t 0) (c.b 0) (c.b 1) (c.b 2)
noncomputable def UK:Zf:=ZM Zj fun c=>Ve c∧Vf c
omit B F X T in
theorem Zb5:Ve UK:=by
  delta Ve
  exists Zf.c _ _,w
  exists Zf.d _ _,p
  exists Zf.h _ _,loose
  exists Zf.k _ _,mean
  exists Zf.i _ _,mg,mb,m
  exists Zf.a _ _,dp,un,L,sym,wl,wi,gj,ge,sn,wj,we,idx
  exists Zf.l _ _,gd
  exists Zf.q _ _,outer
  exists Zf.e _ _,A₀
  exists Zf.j _ _,base,h₀
  exists Zf.f _ _,s
  exists Zf.x _ _,Qk
  exists Zf.g _ _,E
  exists Zf.z _ _,mv,past
  exists Zf.v _ _,owl,owi
  exists Zf.va _ _,kwl
  exists Zf.y _ _,kwi
  exists Zf.u _ _,gv
  exists Zf.n _ _,act
  exists Zf.w _ _,codes
  exists Zf.o _ _,ti,ta,tn
  exists Zf.b _ _,S,news,rest
  intro B F X T N P D mw1 hwl hwk mw2 hwi hwv mgv hg hlen hidx hlt hl1 hl2 hl3 hl4 hdp hun nx
  have N₁:News h₀ L s.heap ((wj,Zg gj idx past act ti ta we)::(S++rest)):=Ze N P.perm
  have D₁:Za ((wj,Zg gj idx past act ti ta we)::(S++rest)):=D.perm P.perm
  clear N D P
  have hsm:Zl gv.toArray:=by unfold Zl;rw [List.size_toArray,hg.length];tb_start
  have hsz:gv.toArray.size=codes.length:=by rw [List.size_toArray,hg.length]
  obtain ⟨tx,hx⟩:=hg.get idx codes[idx] (by simp [hlt])
  have hx':gv.toArray[((idx:Int)).toNat]? = some (.int codes[idx] tx):=by simpa using hx
  have e:codes.getD idx (-1)=codes[idx]:=by simp [hlt]
  rw [e] at nx
  have hen:decide ((gv.toArray.size:Int)≤(idx:Int))=false:=decide_eq_false (by tb_start)
  clear hg
  k_steps
  · rename News _ _ _ _=>nN
    have nD:=Zd nN (by ktr_unf)
    exact nx _ _ past _ _ _ _ _ (ZlZ (by assumption) hlt) (Zjy hlt) (by k_asm) (by exact congrArg (fun b=>some (Value.bool b)) hen) (by exact rfl) (by exact rfl) (by exact rfl) (by exact rfl) (Zc nN (by ktr_rel)) (Zb nD (by ktr_rel))
  · rename News _ _ _ _=>nN
    have nD:=Zd nN (by ktr_unf)
    exact nx _ _ past _ _ _ _ _ (Zl0 (by assumption)) (Zjy hlt) (by k_asm) (by exact congrArg (fun b=>some (Value.bool b)) hen) (by exact rfl) (by exact rfl) (by exact rfl) (by exact rfl) (Zc nN (by ktr_rel)) (Zb nD (by ktr_rel))
omit B F X T in
theorem Zb6:Vf UK:=by
  delta Vf
  exists Zf.c _ _,w
  exists Zf.d _ _,p
  exists Zf.h _ _,loose,TX
  exists Zf.k _ _,mean
  exists Zf.i _ _,mg,mb,m
  exists Zf.a _ _,dp,un,L,sym,sd,tl,an,fl,fn,n,wl,wi,gj,ge,sn,wj,we,idx
  exists Zf.l _ _,gd
  exists Zf.q _ _,outer
  exists Zf.e _ _,A₀
  exists Zf.j _ _,base,h₀
  exists Zf.f _ _,s
  exists Zf.x _ _,Qk
  exists Zf.g _ _,E
  exists Zf.z _ _,mv,past
  exists Zf.vj _ _,jy
  exists Zf.v _ _,owl,owi
  exists Zf.va _ _,kwl
  exists Zf.y _ _,kwi
  exists Zf.u _ _,gv
  exists Zf.n _ _,act
  exists Zf.w _ _,codes
  exists Zf.o _ _,ti,ta,tn
  exists Zf.t _ _,FN
  exists Zf.b _ _,S,news,rest
  intro B F X T N P D hS hm1 hm2 mw1 hwl hwk mw2 hwi hwv mgv hg hlen hidx hle hb hb1 hl1 hl2 hl3 hl4 hdp hun rerr nx
  delta Zq at *
  have N₁:News h₀ L s.heap ((wj,Zg gj idx past act ti ta we)::(S++rest)):=Ze N P.perm
  have D₁:Za ((wj,Zg gj idx past act ti ta we)::(S++rest)):=D.perm P.perm
  clear N D P
  have hsm:Zl gv.toArray:=by unfold Zl;rw [List.size_toArray,hg.length];tb_start
  have hsz:gv.toArray.size=codes.length:=by rw [List.size_toArray,hg.length]
  have hen:decide ((gv.toArray.size:Int)≤(idx:Int))=true:=decide_eq_true (by tb_start)
  k_steps
  · rename News _ _ _ _=>nN
    have nD:=Zd nN (by ktr_unf)
    exact rerr _ _ _ _ _ _ _ TT' _ _ _ _ _ _ _ (by assumption) (by assumption) (by k_asm) (Zc nN (by ktr_rel)) (Zb nD (by ktr_rel)) hdt' hw1' hw2' (WI hia' (by assumption)) (WI hi' (by assumption)) her' hS' (List.IsPrefix.trans (by assumption) (by assumption)) (by tb_start) (List.IsPrefix.trans (by assumption) (by assumption)) (by tb_start)
  · rename News _ _ _ _=>nN
    have nD:=Zd nN (by ktr_unf)
    exact nx _ _ true _ _ _ _ _ (.inr (by assumption)) (Zcl hle) (Zjx (by assumption) hle) (by k_asm) (by exact congrArg (fun b=>some (Value.bool b)) hen) (by exact rfl) (by exact rfl) (by exact rfl) (by exact rfl) (Zc nN (by ktr_rel)) (Zb nD (by ktr_rel))
  · rename News _ _ _ _=>nN
    have nD:=Zd nN (by ktr_unf)
    exact nx _ _ past _ _ _ _ _ (.inr (by assumption)) (Zcl hle) (Zjz (by assumption)) (by k_asm) (by exact congrArg (fun b=>some (Value.bool b)) hen) (by exact rfl) (by exact rfl) (by exact rfl) (by exact rfl) (Zc nN (by ktr_rel)) (Zb nD (by ktr_rel))
  · rename News _ _ _ _=>nN
    have nD:=Zd nN (by ktr_unf)
    exact nx _ _ true _ _ _ _ _ (.inl (by assumption)) (Zcl hle) (Zjx (by assumption) hle) (by k_asm) (by exact congrArg (fun b=>some (Value.bool b)) hen) (by exact rfl) (by exact rfl) (by exact rfl) (by exact rfl) (Zc nN (by ktr_rel)) (Zb nD (by ktr_rel))
  · rename News _ _ _ _=>nN
    have nD:=Zd nN (by ktr_unf)
    exact nx _ _ past _ _ _ _ _ (.inl (by assumption)) (Zcl hle) (Zjz (by assumption)) (by k_asm) (by exact congrArg (fun b=>some (Value.bool b)) hen) (by exact rfl) (by exact rfl) (by exact rfl) (by exact rfl) (Zc nN (by ktr_rel)) (Zb nD (by ktr_rel))
omit B F X T in
theorem UJ:∀ c:Zf,Ve c∧Vf c:=ZN (k:=UK) rfl ⟨Zb5,Zb6⟩
omit B F X T in
theorem Zgn {mv sym wl wi gj ge owl owi kwl kwi gv sn wj we idx past act codes ti ta tn S news rest}:@GQ w p loose mean mg mb dp un gd outer A₀ base h₀ L m s Qk E mv sym wl wi gj ge owl owi kwl kwi gv sn wj we idx past act codes ti ta tn S news rest:=(UJ (dC |>.sc (gt dC.c [w]) |>.sd (gt dC.d [p]) |>.sh (gt dC.h [loose]) |>.sk (gt dC.k [mean]) |>.si (gt dC.i [mg,mb,m]) |>.sa (gt dC.a [dp,un,L,sym,wl,wi,gj,ge,sn,wj,we,idx]) |>.sl (gt dC.l [gd]) |>.sq (gt dC.q [outer]) |>.se (gt dC.e [A₀]) |>.sj (gt dC.j [base,h₀]) |>.sf (gt dC.f [s]) |>.sx (gt dC.x [Qk]) |>.sg (gt dC.g [E]) |>.sz (gt dC.z [mv,past]) |>.sv (gt dC.v [owl,owi]) |>.sva (gt dC.va [kwl]) |>.sy (gt dC.y [kwi]) |>.su (gt dC.u [gv]) |>.sn (gt dC.n [act]) |>.sw (gt dC.w [codes]) |>.so (gt dC.o [ti,ta,tn]) |>.sb (gt dC.b [S,news,rest]))).1
omit B F X T in
theorem Zgo {mv sym sd tl an fl fn n jy wl wi gj ge owl owi kwl kwi gv sn wj we idx past act codes ti ta tn TX FN S news rest}:@GR w p loose mean mg mb dp un gd outer A₀ base h₀ L m s Qk E mv sym sd tl an fl fn n jy wl wi gj ge owl owi kwl kwi gv sn wj we idx past act codes ti ta tn TX FN S news rest:=(UJ (dC |>.sc (gt dC.c [w]) |>.sd (gt dC.d [p]) |>.sh (gt dC.h [loose,TX]) |>.sk (gt dC.k [mean]) |>.si (gt dC.i [mg,mb,m]) |>.sa (gt dC.a [dp,un,L,sym,sd,tl,an,fl,fn,n,wl,wi,gj,ge,sn,wj,we,idx]) |>.sl (gt dC.l [gd]) |>.sq (gt dC.q [outer]) |>.se (gt dC.e [A₀]) |>.sj (gt dC.j [base,h₀]) |>.sf (gt dC.f [s]) |>.sx (gt dC.x [Qk]) |>.sg (gt dC.g [E]) |>.sz (gt dC.z [mv,past]) |>.svj (gt dC.vj [jy]) |>.sv (gt dC.v [owl,owi]) |>.sva (gt dC.va [kwl]) |>.sy (gt dC.y [kwi]) |>.su (gt dC.u [gv]) |>.sn (gt dC.n [act]) |>.sw (gt dC.w [codes]) |>.so (gt dC.o [ti,ta,tn]) |>.st (gt dC.t [FN]) |>.sb (gt dC.b [S,news,rest]))).2
end
theorem Zm8:True:=by
  walk_at "RST"
  trivial
theorem Zg3 {x y:Addr×Obj}{S l r:List (Addr×Obj)}(h:Tk (x::y::S) l r):Tk (x::S) l (y::r):=⟨h.perm.trans (List.Perm.cons x (by simpa using (List.perm_middle (a:=y) (l₁:=S) (l₂:=r)).symm))⟩
theorem Zam {x y:Addr×Obj}{S r:List (Addr×Obj)}:Tk (y::S) (x::(S++y::r)) (x::r):=⟨by
  refine (List.Perm.cons x (List.perm_middle (a:=y) (l₁:=S) (l₂:=r))).trans ?_
  refine (List.Perm.swap y x (S++r)).trans (List.Perm.cons y ?_)
  exact (List.perm_middle (a:=x) (l₁:=S) (l₂:=r)).symm⟩
theorem YO {x y:Addr×Obj}{R S r:List (Addr×Obj)}:Tk ((y::R)++(x::(S++r))) ((y::R)++(S++x::r)) []:=⟨by
  rw [List.append_nil]
  exact List.Perm.append_left _ (List.perm_middle (a:=x) (l₁:=S) (l₂:=r))⟩
theorem Zfk {x y:Addr×Obj}{R S r:List (Addr×Obj)}:Tk ((y::R)++(x::(S++r))) (R++(x::(S++y::r))) []:=⟨by
  rw [List.append_nil]
  have e:R++(x::(S++y::r))=(R++(x::S))++y::r:=by simp
  have e2:(y::R)++(x::(S++r))=y::((R++(x::S))++r):=by simp
  rw [e,e2]
  exact List.perm_middle⟩
theorem Zgk {TX:List Str}{codes:List Int}{idx:Nat}{j:Int}(hlt:idx<codes.length)(h:∃ i:Nat,TX[i]? = some (Zd6 (codes.getD idx (-1)))∧j=i):Uk TX true codes idx 4 j:=by
  obtain ⟨i,h,rfl⟩:=h;exact Zhi hlt rfl h
theorem Zgj {TX:List Str}{codes:List Int}{idx:Nat}{j:Int}(hle:codes.length≤idx)(h:j=24):Uk TX true codes idx 4 j:=h ▸ Zhg hle
theorem Zb3 {TX:List Str}{codes:List Int}{idx:Nat}{j:Int}(h:j=codes.getD idx (-1)):Uk TX false codes idx 5 j:=h ▸ Zhh rfl
theorem Zep {TX:List Str}{FN:List (Int×Int)}{chars mv:Bool}{sn:Int}{past:Bool}{codes:List Int}{idx idx':Nat}{act:Str}{tg:Tgt}{dd d1:W.Dat}{past':Bool}(g:ZF chars tg)(hlt:idx<codes.length)(hc:1114111<codes.getD idx (-1))(hw:Zv TX (.ofString "character") d1)(he:ZG TX FN (.ofString "representation_error") [d1] dd)
   (h1:idx'=Zt mv codes.length idx)(h2:past'=Zs mv past codes.length idx):Yl TX FN chars mv sn past codes idx act tg (.tuple [.str (.ofString "error"),dd]) idx' past':=ZgN g hlt rfl hc hw he h1 h2
theorem Ul {TX:List Str}{FN:List (Int×Int)}{chars mv:Bool}{sn:Int}{past:Bool}{codes:List Int}{idx idx':Nat}{act:Str}{tg:Tgt}{v:Int}{past':Bool}(g:ZF chars tg)(h:Y4 past codes idx act)(r:Uk TX chars codes idx (bif chars then 4 else 5) v)
   (h1:idx'=Zt mv codes.length idx)(h2:past'=Zs mv past codes.length idx):Yl TX FN chars mv sn past codes idx act tg (YA chars tg v) idx' past' :=.inr ⟨g,h,h1,h2,v,r,rfl⟩
section
variable {w:World}{p:Program}{loose:List Str}{mean:ExcName→Option Value}{mg mb:Str→Option Value}
   {dp un:Nat}{gd:Option (List Code)}{outer:List Env}{A₀:Around}{base h₀:Heap}{L:Addr}{m:Str→Option Value}{s:Shared}{Qk:Flow→Shared→Prop}{E:Value→Shared→Prop}
theorem WB {ch mv:Bool}{tg:Tgt}{sym sd tl an fl fn n:Nat}{jy:Hs}{wl wi gj ge:Nat}{owl owi:Obj}{kwl:List (Str×Value)}{kwi:List (Int×Value)}{gv:List Value}{sn wj we idx tm:Nat}{past:Bool}{act:Str}{codes:List Int}{ti ta tn t1 t2:Tok}{TX:List Str}{FN:List (Int×Int)}{S news rest:List (Addr×Obj)}
   (B:Below A₀ base outer h₀)(F:Fr h₀ L s.heap m)(X:(K w.params).In h₀)(T:Top p loose mean mg mb h₀)
   (N:News h₀ L s.heap news)(P:Tk ((wj,Zg gj idx past act ti ta we)::(tm,ZO tg t1 t2)::S) news rest)(hS:Zh w tl an fl fn TX FN S)(D:Za news)(hm1:(sym,instObj 154 sd)∈rest)(hm2:(sd,Zq jy tl an fl fn n)∈rest)(mw1:(wl,owl)∈rest)(hwl:owl.IsDictOf (strKind PR w) kwl)(hwk:valueAt kwl (Str.ofString "in")=some (.ref wi))(mw2:(wi,owi)∈rest)(hwi:owi.IsDictOf (intKind PR w) kwi)(hwv:valueAt kwi (sn:Int)=some (.ref wj))(mgv:(gj,W.listOf gv.toArray ge)∈rest)(hg:IntsAre gv codes)(hg':ZF ch tg)
   (hlen:codes.length<50)(hidx:idx<900)(hnn:∀ c∈codes,0≤c)(hb:TX.length<20000)(hb':FN.length<20000)
   (hl1:m (Str.ofString "names")=some (.ref sym))(hl2:m (Str.ofString "world")=some (.ref wl))(hl3:m (Str.ofString "number")=some (.int sn tn))(hl4:m (Str.ofString "moves")=some (.bool mv))(hl5:m (Str.ofString "target")=some (.ref tm))(hl6:m (Str.ofString "chars")=some (.bool ch))
   (hdp:dp+45<recursionLimit)(hun:un+350<cLine)
   (ret:∀ (t we' idx':Nat)(m':Str→Option Value)(R:List (Addr×Obj))(rd:W.Dat)(ti':Tok)(past':Bool)(TX':List Str)(FN':List (Int×Int))(S':List (Addr×Obj))(h':Heap)(tk':Nat),
      Fr h₀ L h' m'→News h₀ L h' (R++((wj,Zg gj idx' past' act ti' ta we')::(S'++rest)))→Za (R++((wj,Zg gj idx' past' act ti' ta we')::(S'++rest))) →
      Yl TX' FN' ch mv sn past codes idx act tg rd idx' past'→W.DatIn R (.ref t) rd→(tm,ZO tg t1 t2)∈R→Zh w tl an fl fn TX' FN' S'→TX<+:TX'→TX'.length≤TX.length+6→FN<+:FN'→FN'.length≤FN.length+3→Qk (.ret (.ref t)) {s with heap:=h',toks:=tk'}) :
   wpAny (model PR w) (ktrTop dp un gd (Str.ofString "_law_taken") Z7 L 1149 (aR 1148) [] outer) (execs (List.drop 2 U4) (envOf (Str.ofString "_law_taken") Z7 L 1149 (aR 1148))) Qk E s:=by
  have P₁:=Zg3 P
  have l6:TX.length≤TX.length+6:=by tb_start
  by_cases hlt:idx<codes.length
  · refine Zgn B F X T (N:=N) (P:=P₁) (D:=D) (mw1 :=.tail _ mw1) (hwl:=hwl) (hwk:=hwk) (mw2 :=.tail _ mw2) (hwi:=hwi) (hwv:=hwv) (mgv :=.tail _ mgv) (hg:=hg) (hlen:=hlen) (hidx:=hidx) (hlt:=hlt) (hl1:=hl1) (hl2:=hl2) (hl3:=hl3) (hl4:=hl4) (hdp:=hdp) (hun:=hun) (nx:=?_)
    intro we' idx' past' ti' tc m' h' tk' e1 e2 F' n1 n2 n3 n4 n5 N' D'
    have hc0:=Uu hnn hlt
    have rerr:∀ (t:Nat) (m'':Str→Option Value) (TX':List Str) (FN':List (Int×Int)) (S' TT':List (Addr×Obj)) (d1 dd:W.Dat) (h'':Heap) (tk'':Nat),1114111<codes.getD idx (-1)→Fr h₀ L h'' m''→News h₀ L h'' (((tm,ZO tg t1 t2)::TT')++(S'++((wj,Zg gj idx' past' act ti' ta we')::rest)))→Za (((tm,ZO tg t1 t2)::TT')++(S'++((wj,Zg gj idx' past' act ti' ta we')::rest))) →
      W.DatIn TT' (.ref t) (.tuple [.str (.ofString "error"),dd])→Zv TX' (.ofString "character") d1→ZG TX' FN' (.ofString "representation_error") [d1] dd→Zh w tl an fl fn TX' FN' S'→TX<+:TX'→TX'.length≤TX.length+2→FN<+:FN'→FN'.length≤FN.length+1→Qk (.ret (.ref t)) {s with heap:=h'',toks:=tk''} :=
      fun t m'' TX' FN' S' TT' d1 dd h'' tk'' a1 a2 a3 a4 a5 a6 a7 a8 a9 a10 a11 a12=>ret t we' idx' m'' _ _ ti' past' TX' FN' S' h'' tk'' a2 (Zc a3 YO) (Zb a4 YO) (Zep hg' hlt a1 a6 a7 e1 e2) (DatIn.mono (fun _ q =>.tail _ q) a5) (.head _) a8 a9 (by tb_start) a11 (by tb_start)
    cases ch with
    | true=>exact Zew B F' X T (N:=N') (P:=Zam) (hS:=hS) (D:=D') (hm1 :=.tail _ hm1) (hm2 :=.tail _ hm2) (hg:=hg') (hl1:=n3.trans hl1) (hl2:=n4.trans hl5) (hl3:=n5.trans hl6) (hl4:=n1) (hl5:=n2) (hc0:=hc0) (hb:=hb) (hb':=hb') (hdp:=hdp) (hun:=hun) (rerr:=rerr) (rok:=fun t m'' j TX' S' R h'' tk'' a1 a2 a3 a4 a5 a6 a7 a8 a9=>ret t we' idx' m'' _ _ ti' past' TX' FN S' h'' tk'' a3 (Zc a4 YO) (Zb a5 YO) (Ul hg' (Zfu hlt rfl a1) (Zgk hlt a2) e1 e2) (DatIn.mono (fun _ q =>.tail _ q) a6) (.head _) a7 a8 (by tb_start) (List.prefix_refl _) (by tb_start))
    | false=>exact Zev B F' X T (N:=N') (P:=Zam) (hS:=hS) (D:=D') (hm1 :=.tail _ hm1) (hm2 :=.tail _ hm2) (hg:=hg') (hl1:=n3.trans hl1) (hl2:=n4.trans hl5) (hl3:=n5.trans hl6) (hl4:=n1) (hl5:=n2) (hc0:=hc0) (hb:=hb) (hb':=hb') (hdp:=hdp) (hun:=hun) (rerr:=rerr) (rok:=fun t m'' j TX' S' R h'' tk'' a1 a2 a3 a4 a5 a6 a7 a8 a9=>ret t we' idx' m'' _ _ ti' past' TX' FN S' h'' tk'' a3 (Zc a4 YO) (Zb a5 YO) (Ul hg' (Zfu hlt rfl a1) (Zb3 a2) e1 e2) (DatIn.mono (fun _ q =>.tail _ q) a6) (.head _) a7 a8 (by tb_start) (List.prefix_refl _) (by tb_start))
  · have hle:codes.length≤idx:=Nat.not_lt.mp hlt
    refine Zgo B F X T (N:=N) (P:=P₁) (D:=D) (hS:=hS) (hm1 :=.tail _ hm1) (hm2 :=.tail _ hm2) (mw1 :=.tail _ mw1) (hwl:=hwl) (hwk:=hwk) (mw2 :=.tail _ mw2) (hwi:=hwi) (hwv:=hwv) (mgv :=.tail _ mgv) (hg:=hg) (hlen:=hlen) (hidx:=hidx) (hle:=hle) (hb:=hb) (hb1:=hb') (hl1:=hl1) (hl2:=hl2) (hl3:=hl3) (hl4:=hl4) (hdp:=hdp) (hun:=hun) (rerr:=?_) (nx:=?_)
    · exact fun t we' m'' ti' TX' FN' S' TT' d1 d2 dd f i1 h'' tk'' a1 a2 a3 a4 a5 a6 a7 a8 a9 a10 a11 a12 a13 a14 a15 a16=>ret t we' idx m'' _ _ ti' past TX' FN' S' h'' tk'' a3 (Zc a4 Zfk) (Zb a5 Zfk) (ZgM hg' hle a1 a2 a7 a8 a9 a10 a11) (DatIn.mono (fun _ q =>.tail _ q) a6) (.head _) a12 a13 (by tb_start) a15 (by tb_start)
    · intro we' idx' past' ti' tc m' h' tk' e0 e1 e2 F' n1 n2 n3 n4 n5 N' D'
      cases ch with
      | true=>exact Zey B F' X T (N:=N') (P:=Zam) (hS:=hS) (D:=D') (hm1 :=.tail _ hm1) (hm2 :=.tail _ hm2) (hg:=hg') (hl1:=n3.trans hl1) (hl2:=n4.trans hl5) (hl3:=n5.trans hl6) (hl4:=n1) (hl5:=n2) (hb:=hb) (hb':=hb') (hdp:=hdp) (hun:=hun) (rok:=fun t m'' j TX' S' R h'' tk'' a2 a3 a4 a5 a6 a7 a8 a9=>ret t we' idx' m'' _ _ ti' past' TX' FN S' h'' tk'' a3 (Zc a4 YO) (Zb a5 YO) (Ul hg' (Zfv hle e0) (Zgj hle a2) e1 e2) (DatIn.mono (fun _ q =>.tail _ q) a6) (.head _) a7 a8 (by tb_start) (List.prefix_refl _) (by tb_start))
      | false=>exact Zex B F' X T (N:=N') (P:=Zam) (hS:=hS) (D:=D') (hm1 :=.tail _ hm1) (hm2 :=.tail _ hm2) (hg:=hg') (hl1:=n3.trans hl1) (hl2:=n4.trans hl5) (hl3:=n5.trans hl6) (hl4:=n1) (hl5:=n2) (hb:=hb) (hb':=hb') (hdp:=hdp) (hun:=hun) (rok:=fun t m'' j TX' S' R h'' tk'' a2 a3 a4 a5 a6 a7 a8 a9=>ret t we' idx' m'' _ _ ti' past' TX' FN S' h'' tk'' a3 (Zc a4 YO) (Zb a5 YO) (Ul hg' (Zfv hle e0) (Zb3 (a2.trans (Zcy hle).symm)) e1 e2) (DatIn.mono (fun _ q =>.tail _ q) a6) (.head _) a7 a8 (by tb_start) (List.prefix_refl _) (by tb_start))
end
theorem Zm7:True:=by
  walk_at "RST"
  trivial
theorem ZbJ {tm:Nat}{o:Obj}{S l rest:List (Addr×Obj)}(_:Y3 tm)(h:Tk ((tm,o)::S) l rest):Tk (S++[(tm,o)]) l rest:=Zg2 h
theorem Ze4 {i:Nat}{x:Str}(h:(i:Int)=24):ZF true (.a i x) :=.inl (by tb_start)
theorem Ze3 {i:Nat}{x:Str}(h:(x.length:Int)=1):ZF true (.a i x) :=.inr (by tb_start)
theorem ZgH {k:Int}(h:¬ k < -1)(h2:¬ 1114111<k):ZF false (.i k):=fun x=>x.elim h h2
theorem Zm6:True:=by
  walk_at "G dct"
  walk_at "G loop"
  trivial
section
variable {w:World}{p:Program}{loose:List Str}{mean:ExcName→Option Value}{mg mb:Str→Option Value}
   {dp un:Nat}{gd:Option (List Code)}{cn:Str}{cs:Scope}{a:Addr}{ccd:Value}{cl:List (Str×Addr)}{outer:List Env}{A₀:Around}{base h₀:Heap}{L:Addr}{m:Str→Option Value}{s:Shared}{Q E:Value→Shared→Prop}
   (B:Below A₀ base outer h₀)(F:Fr h₀ L s.heap m)(X:(K w.params).In h₀)(T:Top p loose mean mg mb h₀)(hk:cs.kind = .function)
include B F X T hk
theorem Zm5:True:=by
  walk_at "G der"
  walk_at "G LawC"
  walk_at "G slim"
  k_with "execs cons" =>(k_here;(with_reducible show wpAny _ _ (execs (Stmt.Assign (Expr.Name (Str.ofString "source") _::_) _ _::_) _) _ _ _);k_dflt (refine' WB (N:=?N) (P:=?P) (hS:=?hS) (D:=?D) (hm1:=?hm1) (hm2:=?hm2) (mw1:=?mw1) (hwl:=?hwl) (hwk:=?hwk) (mw2:=?mw2) (hwi:=?hwi) (hwv:=?hwv) (mgv:=?mgv) (hg:=?hg) (hg':=?hg') (hlen:=?hlen) (hidx:=?hidx) (hnn:=?hnn) (hb:=?hb) (hb':=?hb') (hl1:=?hl1) (hl2:=?hl2) (hl3:=?hl3) (hl4:=?hl4) (hl5:=?hl5) (hl6:=?hl6) (hdp:=?hdp) (hun:=?hun) ?B ?F ?X ?T ?_;(case B=>k_asm);(case F=>k_asm);(case X=>k_asm);(case T=>k_asm);(case N=>k_asm);(case hg'=>first|with_reducible assumption|exact Ze4 (x:=x) (by assumption)|exact Ze3 (i:=i) (by assumption)|exact ZgH (by assumption) (by assumption));(case hS=>with_reducible assumption);(case hl1=>exact rfl);(case hl2=>exact rfl);(case hl3=>exact rfl);(case hl4=>exact rfl);(case hl5=>exact rfl);(case hl6=>exact rfl);(case hwl=>with_reducible assumption);(case hwk=>with_reducible assumption);(case hwi=>with_reducible assumption);(case hwv=>with_reducible assumption);(case hg=>with_reducible assumption);(case hlen=>with_reducible assumption);(case hidx=>with_reducible assumption);(case hnn=>with_reducible assumption);(case hb=>with_reducible assumption);(case hb'=>with_reducible assumption);(case P=>ktr_rel);(case hm1=>k_mem);(case hm2=>k_mem);(case mw1=>k_mem);(case mw2=>k_mem);(case mgv=>k_mem);(case D=>ktr_unf);(case hdp=>ktr_room);(case hun=>ktr_units));intro t' we' idx2 m2 R' rd' ti' past2 TX' FN' S' h' tk' F' N' D' htd' hdt' htm' hS' pre' len' pref' lenf';(try dsimp only))
  k_with "call ref" =>(k_here;(with_reducible show wpAny _ _ (call (Value.ref 95) _) _ _ _);k_dflt (refine' ZbL (B:=?zB) (F:=?zF) (X:=?zX) (T:=?zT) (hk:=?zhk) (N:=?zN) (hdp:=?zhdp) (hun:=?zhun) (hm1:=?zhm1) (hm2:=?zhm2) (hS:=?zhS) (P:=?zP) (D:=?zD) (hb:=?zhb) (hi:=?zhi) (ret:=?_);k_extra "z6";(case zhS=>first|with_reducible assumption|k_asm);(case zP=>ktr_rel);(case zhm1=>k_mem);(case zhm2=>k_mem);(case zhb=>tb_start);(case zhi=>first|with_reducible assumption|k_asm);(case zhdp=>ktr_room);(case zhun=>ktr_units);(case zD=>ktr_unf));intro t' h' tk' F' N';(try dsimp only))
  k_with "call ref" =>(k_here;(with_reducible show wpAny _ _ (call (Value.ref 1118) _) _ _ _);(with_reducible show wpAny _ _ (call _ [_,Value.str (PySem.Str.ofString "representation_error") _,_]) _ _ _);k_dflt (refine' Zcr (B:=?zB) (F:=?zF) (X:=?zX) (T:=?zT) (hk:=?zhk) (N:=?zN) (hdp:=?zhdp) (hun:=?zhun) (hm1:=?zhm1) (hm2:=?zhm2) (mlp:=?zmlp) (hS:=?zhS) (P:=?zP) (D:=?zD) (hb:=?zhb) (hb':=?zhb') (ret:=?_);k_extra "z6";(case zhS=>first|with_reducible assumption|k_asm);(case zP=>ktr_rel);(case zhm1=>k_mem);(case zhm2=>k_mem);(case zmlp=>k_mem);(case zhb=>tb_start);(case zhb'=>tb_start);(case zhdp=>ktr_room);(case zhun=>ktr_units);(case zD=>ktr_unf));intro t' TX' FN' S' TT' d1' dd' h' tk' F' N' D' hS' hdt' hw1' her' pre' len' pref' lenf';(try dsimp only))
  k_with "call ref" =>(k_here;(with_reducible show wpAny _ _ (call (Value.ref 1118) _) _ _ _);(with_reducible show wpAny _ _ (call _ [_,Value.str (PySem.Str.ofString "type_error") _,_]) _ _ _);k_dflt (refine' Zcp (B:=?zB) (F:=?zF) (X:=?zX) (T:=?zT) (hk:=?zhk) (N:=?zN) (hdp:=?zhdp) (hun:=?zhun) (hm1:=?zhm1) (hm2:=?zhm2) (mlp:=?zmlp) (hc:=?zhc) (hS:=?zhS) (mkt:=?zmkt) (P:=?zP) (D:=?zD) (hcd:=?zhcd) (hko:=?zhko) (hb:=?zhb) (hb':=?zhb') (ret:=?_);k_extra "z6";(case zhS=>first|with_reducible assumption|k_asm);(case zmkt=>with_reducible assumption);(case zP=>exact ZbJ (by with_reducible assumption) (by ktr_rel));(case zhm1=>k_mem);(case zhm2=>k_mem);(case zmlp=>k_mem);(case zhc=>k_mem);(case zhcd=>exact DatIn.tuple (List.Mem.head _) (.cons (.str _ _) (.cons (.int _ _) .nil)));(case zhko=>exact kqi);(case zhb=>tb_start);(case zhb'=>tb_start);(case zhdp=>ktr_room);(case zhun=>ktr_units);(case zD=>ktr_unf));intro t' TX' FN' S' TT' d1' dd' h' tk' F' N' D' hS' hdt' hsb' hw1' her' pre' len' pref' lenf';(try dsimp only))
  k_with "call ref" =>(k_here;(with_reducible show wpAny _ _ (call (Value.ref 1118) _) _ _ _);(with_reducible show wpAny _ _ (call _ [_,Value.str (PySem.Str.ofString "type_error") _,_]) _ _ _);k_dflt (refine' Zcp (B:=?zB) (F:=?zF) (X:=?zX) (T:=?zT) (hk:=?zhk) (N:=?zN) (hdp:=?zhdp) (hun:=?zhun) (hm1:=?zhm1) (hm2:=?zhm2) (mlp:=?zmlp) (hc:=?zhc) (hS:=?zhS) (mkt:=?zmkt) (P:=?zP) (D:=?zD) (hcd:=?zhcd) (hko:=?zhko) (hb:=?zhb) (hb':=?zhb') (ret:=?_);k_extra "z6";(case zhS=>first|with_reducible assumption|k_asm);(case zmkt=>with_reducible assumption);(case zP=>exact ZbJ (by with_reducible assumption) (by ktr_rel));(case zhm1=>k_mem);(case zhm2=>k_mem);(case zmlp=>k_mem);(case zhc=>k_mem);(case zhcd=>exact DatIn.tuple (List.Mem.head _) (.cons (.str _ _) (.cons (.int _ _) .nil)));(case zhko=>exact kqa);(case zhb=>tb_start);(case zhb'=>tb_start);(case zhdp=>ktr_room);(case zhun=>ktr_units);(case zD=>ktr_unf));intro t' TX' FN' S' TT' d1' dd' h' tk' F' N' D' hS' hdt' hsb' hw1' her' pre' len' pref' lenf';(try dsimp only))
  k_with "call builtin:len" =>(k_here;(with_reducible show wpAny _ _ (call (Value.builtin "len") [Value.str _ _]) _ _ _);k_dflt (refine P.len_str (by tb_start) ?_))
  trivial
omit B F X T hk in
noncomputable def Wc {mv ch:Bool}{sym sd tl an fl fn n:Nat}{jy:Hs}{wl wi gj ge:Nat}{owl owi:Obj}{kwl:List (Str×Value)}{kwi:List (Int×Value)}{gv:List Value}{sn wj we idx tm:Nat}{past:Bool}{act:Str}{codes:List Int}{ti ta tn t1 t2:Tok}{TX:List Str}{FN:List (Int×Int)}{S news rest:List (Addr×Obj)}:Prop:=∀ (B:Below A₀ base outer h₀)(F:Fr h₀ L s.heap m)(X:(K w.params).In h₀)(T:Top p loose mean mg mb h₀)(hk:cs.kind = .function)(N:News h₀ L s.heap news)(P:Tk ((wj,Zg gj idx past act ti ta we)::(tm,ZO (.v) t1 t2)::S) news rest)(hS:Zh w tl an fl fn TX FN S)(D:Za news)(hm1:(sym,instObj 154 sd)∈rest)(hm2:(sd,Zq jy tl an fl fn n)∈rest)(mw1:(wl,owl)∈rest)(hwl:owl.IsDictOf (strKind PR w) kwl)(hwk:valueAt kwl (Str.ofString "in")=some (.ref wi))(mw2:(wi,owi)∈rest)(hwi:owi.IsDictOf (intKind PR w) kwi)(hwv:valueAt kwi (sn:Int)=some (.ref wj))(mgv:(gj,W.listOf gv.toArray ge)∈rest)(hg:IntsAre gv codes)(hlen:codes.length<50)(hidx:idx<900)(hnn:∀ c∈codes,0≤c)(hb:TX.length<20000)(hb':FN.length<20000)(hdp:dp+50<recursionLimit)(hun:un+400<cLine)(ret:∀ (t we' idx':Nat)(R:List (Addr×Obj))(rd:W.Dat)(ti':Tok)(past':Bool)(TX':List Str)(FN':List (Int×Int))(S':List (Addr×Obj))(h':Heap)(tk':Nat),
      Fr h₀ L h' m→News h₀ L h' (R++((wj,Zg gj idx' past' act ti' ta we')::(S'++rest)))→Za (R++((wj,Zg gj idx' past' act ti' ta we')::(S'++rest))) →
      Yl TX' FN' ch mv sn past codes idx act (.v) rd idx' past'→W.DatIn R (.ref t) rd→(tm,ZO (.v) t1 t2)∈R→Zh w tl an fl fn TX' FN' S'→TX<+:TX'→TX'.length≤TX.length+6→FN<+:FN'→FN'.length≤FN.length+3→Q (.ref t) {s with heap:=h',toks:=tk'}),
   wpAny (model PR w) (ktrTop dp un gd cn cs L a ccd cl outer) (call (.ref 1149) [.ref sym,.ref wl,.int sn tn,.ref tm,.bool ch,.bool mv]) Q E s
noncomputable def Vl (c:Zf):Prop:=@cF _ (@Wc) c (c.z 0) (c.z 1) (c.a 4) (c.a 5) (c.a 6) (c.a 7) (c.a 8) (c.a 9) (c.a 10) (c.vj 0) (c.a 11) (c.a 12) (c.a 13) (c.a 14) (c.v 0) (c.v 1) (c.va 0) (c.y 0) (c.u 0) (c.a 15) (c.a 16) (c.a 17) (c.a 18) (c.a 19) (c.z 2) (c.n 1) (c.w 0) (c.o 0) (c.o 1) (c.o 2) (c.o 3) (c.o 4) (c.h 1) (c.t 0) (c.b 0) (c.b 1) (c.b 2)
omit B F X T hk in
noncomputable def ZaG {mv:Bool}{sym sd tl an fl fn n:Nat}{jy:Hs}{wl wi gj ge:Nat}{owl owi:Obj}{kwl:List (Str×Value)}{kwi:List (Int×Value)}{gv:List Value}{k:Int}{sn wj we idx tm:Nat}{past:Bool}{act:Str}{codes:List Int}{ti ta tn t1 t2:Tok}{TX:List Str}{FN:List (Int×Int)}{S news rest:List (Addr×Obj)}:Prop:=∀ (B:Below A₀ base outer h₀)(F:Fr h₀ L s.heap m)(X:(K w.params).In h₀)(T:Top p loose mean mg mb h₀)(hk:cs.kind = .function)(N:News h₀ L s.heap news)(P:Tk ((wj,Zg gj idx past act ti ta we)::(tm,ZO (.i k) t1 t2)::S) news rest)(hS:Zh w tl an fl fn TX FN S)(D:Za news)(hm1:(sym,instObj 154 sd)∈rest)(hm2:(sd,Zq jy tl an fl fn n)∈rest)(mw1:(wl,owl)∈rest)(hwl:owl.IsDictOf (strKind PR w) kwl)(hwk:valueAt kwl (Str.ofString "in")=some (.ref wi))(mw2:(wi,owi)∈rest)(hwi:owi.IsDictOf (intKind PR w) kwi)(hwv:valueAt kwi (sn:Int)=some (.ref wj))(mgv:(gj,W.listOf gv.toArray ge)∈rest)(hg:IntsAre gv codes)(hlen:codes.length<50)(hidx:idx<900)(hnn:∀ c∈codes,0≤c)(hb:TX.length<20000)(hb':FN.length<20000)(hdp:dp+50<recursionLimit)(hun:un+400<cLine)(ret:∀ (t we' idx':Nat)(R:List (Addr×Obj))(rd:W.Dat)(ti':Tok)(past':Bool)(TX':List Str)(FN':List (Int×Int))(S':List (Addr×Obj))(h':Heap)(tk':Nat),
      Fr h₀ L h' m→News h₀ L h' (R++((wj,Zg gj idx' past' act ti' ta we')::(S'++rest)))→Za (R++((wj,Zg gj idx' past' act ti' ta we')::(S'++rest))) →
      Yl TX' FN' true mv sn past codes idx act (.i k) rd idx' past'→W.DatIn R (.ref t) rd→(tm,ZO (.i k) t1 t2)∈R→Zh w tl an fl fn TX' FN' S'→TX<+:TX'→TX'.length≤TX.length+6→FN<+:FN'→FN'.length≤FN.length+3→Q (.ref t) {s with heap:=h',toks:=tk'}),
   wpAny (model PR w) (ktrTop dp un gd cn cs L a ccd cl outer) (call (.ref 1149) [.ref sym,.ref wl,.int sn tn,.ref tm,.bool true,.bool mv]) Q E s
noncomputable def Us (c:Zf):Prop:=@cF _ (@ZaG) c (c.z 0) (c.a 4) (c.a 5) (c.a 6) (c.a 7) (c.a 8) (c.a 9) (c.a 10) (c.vj 0) (c.a 11) (c.a 12) (c.a 13) (c.a 14) (c.v 0) (c.v 1) (c.va 0) (c.y 0) (c.u 0) (c.m 0) (c.a 15) (c.a 16) (c.a 17) (c.a 18) (c.a 19) (c.z 1) (c.n 1) (c.w 0) (c.o 0) (c.o 1) (c.o 2) (c.o 3) (c.o 4) (c.h 1) (c.t 0) (c.b 0) (c.b 1) (c.b 2)
omit B F X T hk in
noncomputable def ZaF {mv:Bool}{sym sd tl an fl fn n:Nat}{jy:Hs}{wl wi gj ge:Nat}{owl owi:Obj}{kwl:List (Str×Value)}{kwi:List (Int×Value)}{gv:List Value}{i:Nat}{x:Str}{sn wj we idx tm:Nat}{past:Bool}{act:Str}{codes:List Int}{ti ta tn t1 t2:Tok}{TX:List Str}{FN:List (Int×Int)}{S news rest:List (Addr×Obj)}:Prop:=∀ (B:Below A₀ base outer h₀)(F:Fr h₀ L s.heap m)(X:(K w.params).In h₀)(T:Top p loose mean mg mb h₀)(hk:cs.kind = .function)(N:News h₀ L s.heap news)(P:Tk ((wj,Zg gj idx past act ti ta we)::(tm,ZO (.a i x) t1 t2)::S) news rest)(hS:Zh w tl an fl fn TX FN S)(D:Za news)(hm1:(sym,instObj 154 sd)∈rest)(hm2:(sd,Zq jy tl an fl fn n)∈rest)(mw1:(wl,owl)∈rest)(hwl:owl.IsDictOf (strKind PR w) kwl)(hwk:valueAt kwl (Str.ofString "in")=some (.ref wi))(mw2:(wi,owi)∈rest)(hwi:owi.IsDictOf (intKind PR w) kwi)(hwv:valueAt kwi (sn:Int)=some (.ref wj))(mgv:(gj,W.listOf gv.toArray ge)∈rest)(hg:IntsAre gv codes)(hlen:codes.length<50)(hidx:idx<900)(hnn:∀ c∈codes,0≤c)(hb:TX.length<20000)(hb':FN.length<20000)(hdp:dp+50<recursionLimit)(hun:un+400<cLine)(ret:∀ (t we' idx':Nat)(R:List (Addr×Obj))(rd:W.Dat)(ti':Tok)(past':Bool)(TX':List Str)(FN':List (Int×Int))(S':List (Addr×Obj))(h':Heap)(tk':Nat),
      Fr h₀ L h' m→News h₀ L h' (R++((wj,Zg gj idx' past' act ti' ta we')::(S'++rest)))→Za (R++((wj,Zg gj idx' past' act ti' ta we')::(S'++rest))) →
      Yl TX' FN' false mv sn past codes idx act (.a i x) rd idx' past'→W.DatIn R (.ref t) rd→(tm,ZO (.a i x) t1 t2)∈R→Zh w tl an fl fn TX' FN' S'→TX<+:TX'→TX'.length≤TX.length+6→FN<+:FN'→FN'.length≤FN.length+3→Q (.ref t) {s with heap:=h',toks:=tk'}),
   wpAny (model PR w) (ktrTop dp un gd cn cs L a ccd cl outer) (call (.ref 1149) [.ref sym,.ref wl,.int sn tn,.ref tm,.bool false,.bool mv]) Q E s
noncomputable def Ur (c:Zf):Prop:=@cF _ (@ZaF) c (c.z 0) (c.a 4) (c.a 5) (c.a 6) (c.a 7) (c.a 8) (c.a 9) (c.a 10) (c.vj 0) (c.a 11) (c.a 12) (c.a 13) (c.a 14) (c.v 0) (c.v 1) (c.va 0) (c.y 0) (c.u 0) (c.a 15) (c.n 1) (c.a 16) (c.a 17) (c.a 18) (c.a 19) (c.a 20) (c.z 1) (c.n 2) (c.w 0) (c.o 0) (c.o 1) (c.o 2) (c.o 3) (c.o 4) (c.h 1) (c.t 0) (c.b 0) (c.b 1) (c.b 2)
omit B F X T hk in
noncomputable def ZaH {mv:Bool}{sym sd tl an fl fn n:Nat}{jy:Hs}{wl wi gj ge:Nat}{owl owi:Obj}{kwl:List (Str×Value)}{kwi:List (Int×Value)}{gv:List Value}{i:Nat}{x:Str}{sn wj we idx tm:Nat}{past:Bool}{act:Str}{codes:List Int}{ti ta tn t1 t2:Tok}{TX:List Str}{FN:List (Int×Int)}{S news rest:List (Addr×Obj)}:Prop:=∀ (B:Below A₀ base outer h₀)(F:Fr h₀ L s.heap m)(X:(K w.params).In h₀)(T:Top p loose mean mg mb h₀)(hk:cs.kind = .function)(N:News h₀ L s.heap news)(P:Tk ((wj,Zg gj idx past act ti ta we)::(tm,ZO (.a i x) t1 t2)::S) news rest)(hS:Zh w tl an fl fn TX FN S)(D:Za news)(hm1:(sym,instObj 154 sd)∈rest)(hm2:(sd,Zq jy tl an fl fn n)∈rest)(mw1:(wl,owl)∈rest)(hwl:owl.IsDictOf (strKind PR w) kwl)(hwk:valueAt kwl (Str.ofString "in")=some (.ref wi))(mw2:(wi,owi)∈rest)(hwi:owi.IsDictOf (intKind PR w) kwi)(hwv:valueAt kwi (sn:Int)=some (.ref wj))(mgv:(gj,W.listOf gv.toArray ge)∈rest)(hg:IntsAre gv codes)(hi:TX[i]? = some x)(hxl:x.length<1000)(hlen:codes.length<50)(hidx:idx<900)(hnn:∀ c∈codes,0≤c)(hb:TX.length<20000)(hb':FN.length<20000)(hdp:dp+50<recursionLimit)(hun:un+400<cLine)(ret:∀ (t we' idx':Nat)(R:List (Addr×Obj))(rd:W.Dat)(ti':Tok)(past':Bool)(TX':List Str)(FN':List (Int×Int))(S':List (Addr×Obj))(h':Heap)(tk':Nat),
      Fr h₀ L h' m→News h₀ L h' (R++((wj,Zg gj idx' past' act ti' ta we')::(S'++rest)))→Za (R++((wj,Zg gj idx' past' act ti' ta we')::(S'++rest))) →
      Yl TX' FN' true mv sn past codes idx act (.a i x) rd idx' past'→W.DatIn R (.ref t) rd→(tm,ZO (.a i x) t1 t2)∈R→Zh w tl an fl fn TX' FN' S'→TX<+:TX'→TX'.length≤TX.length+6→FN<+:FN'→FN'.length≤FN.length+3→Q (.ref t) {s with heap:=h',toks:=tk'}),
   wpAny (model PR w) (ktrTop dp un gd cn cs L a ccd cl outer) (call (.ref 1149) [.ref sym,.ref wl,.int sn tn,.ref tm,.bool true,.bool mv]) Q E s
noncomputable def Ut (c:Zf):Prop:=@cF _ (@ZaH) c (c.z 0) (c.a 4) (c.a 5) (c.a 6) (c.a 7) (c.a 8) (c.a 9) (c.a 10) (c.vj 0) (c.a 11) (c.a 12) (c.a 13) (c.a 14) (c.v 0) (c.v 1) (c.va 0) (c.y 0) (c.u 0) (c.a 15) (c.n 1) (c.a 16) (c.a 17) (c.a 18) (c.a 19) (c.a 20) (c.z 1) (c.n 2) (c.w 0) (c.o 0) (c.o 1) (c.o 2) (c.o 3) (c.o 4) (c.h 1) (c.t 0) (c.b 0) (c.b 1) (c.b 2)
omit B F X T hk in
noncomputable def ZaE {mv:Bool}{sym sd tl an fl fn n:Nat}{jy:Hs}{wl wi gj ge:Nat}{owl owi:Obj}{kwl:List (Str×Value)}{kwi:List (Int×Value)}{gv:List Value}{k:Int}{sn wj we idx tm:Nat}{past:Bool}{act:Str}{codes:List Int}{ti ta tn t1 t2:Tok}{TX:List Str}{FN:List (Int×Int)}{S news rest:List (Addr×Obj)}:Prop:=∀ (B:Below A₀ base outer h₀)(F:Fr h₀ L s.heap m)(X:(K w.params).In h₀)(T:Top p loose mean mg mb h₀)(hk:cs.kind = .function)(N:News h₀ L s.heap news)(P:Tk ((wj,Zg gj idx past act ti ta we)::(tm,ZO (.i k) t1 t2)::S) news rest)(hS:Zh w tl an fl fn TX FN S)(D:Za news)(hm1:(sym,instObj 154 sd)∈rest)(hm2:(sd,Zq jy tl an fl fn n)∈rest)(mw1:(wl,owl)∈rest)(hwl:owl.IsDictOf (strKind PR w) kwl)(hwk:valueAt kwl (Str.ofString "in")=some (.ref wi))(mw2:(wi,owi)∈rest)(hwi:owi.IsDictOf (intKind PR w) kwi)(hwv:valueAt kwi (sn:Int)=some (.ref wj))(mgv:(gj,W.listOf gv.toArray ge)∈rest)(hg:IntsAre gv codes)(hlen:codes.length<50)(hidx:idx<900)(hnn:∀ c∈codes,0≤c)(hb:TX.length<20000)(hb':FN.length<20000)(hdp:dp+50<recursionLimit)(hun:un+400<cLine)(ret:∀ (t we' idx':Nat)(R:List (Addr×Obj))(rd:W.Dat)(ti':Tok)(past':Bool)(TX':List Str)(FN':List (Int×Int))(S':List (Addr×Obj))(h':Heap)(tk':Nat),
      Fr h₀ L h' m→News h₀ L h' (R++((wj,Zg gj idx' past' act ti' ta we')::(S'++rest)))→Za (R++((wj,Zg gj idx' past' act ti' ta we')::(S'++rest))) →
      Yl TX' FN' false mv sn past codes idx act (.i k) rd idx' past'→W.DatIn R (.ref t) rd→(tm,ZO (.i k) t1 t2)∈R→Zh w tl an fl fn TX' FN' S'→TX<+:TX'→TX'.length≤TX.length+6→FN<+:FN'→FN'.length≤FN.length+3→Q (.ref t) {s with heap:=h',toks:=tk'}),
   wpAny (model PR w) (ktrTop dp un gd cn cs L a ccd cl outer) (call (.ref 1149) [.ref sym,.ref wl,.int sn tn,.ref tm,.bool false,.bool mv]) Q E s
noncomputable def Uq (c:Zf):Prop:=@cF _ (@ZaE) c (c.z 0) (c.a 4) (c.a 5) (c.a 6) (c.a 7) (c.a 8) (c.a 9) (c.a 10) (c.vj 0) (c.a 11) (c.a 12) (c.a 13) (c.a 14) (c.v 0) (c.v 1) (c.va 0) (c.y 0) (c.u 0) (c.m 0) (c.a 15) (c.a 16) (c.a 17) (c.a 18) (c.a 19) (c.z 1) (c.n 1) (c.w 0) (c.o 0) (c.o 1) (c.o 2) (c.o 3) (c.o 4) (c.h 1) (c.t 0) (c.b 0) (c.b 1) (c.b 2)
noncomputable def Z6:Zf:=ZM Zj fun c=>Vl c∧Us c∧Ur c∧Ut c∧Uq c
omit B F X T hk in
theorem Zcu:Vl Z6:=by
  delta Vl cF
  k_extra "gS"
  exists Zf.h _ _,TX
  exists Zf.a _ _,sym,sd,tl,an,fl,fn,n,wl,wi,gj,ge,sn,wj,we,idx,tm
  exists Zf.n _ _,act
  exists Zf.z _ _,mv,ch,past
  exists Zf.vj _ _,jy
  exists Zf.v _ _,owl,owi
  exists Zf.va _ _,kwl
  exists Zf.y _ _,kwi
  exists Zf.u _ _,gv
  exists Zf.w _ _,codes
  exists Zf.o _ _,ti,ta,tn,t1,t2
  exists Zf.t _ _,FN
  exists Zf.b _ _,S,news,rest
  intro B F X T hk N P hS D hm1 hm2 mw1 hwl hwk mw2 hwi hwv mgv hg hlen hidx hnn hb hb' hdp hun ret
  delta Zq at *
  have N₁:News h₀ L s.heap ((wj,Zg gj idx past act ti ta we)::(tm,ZO .v t1 t2)::(S++rest)):=Ze N P.perm
  have D₁:Za ((wj,Zg gj idx past act ti ta we)::(tm,ZO .v t1 t2)::(S++rest)):=D.perm P.perm
  clear N D P
  have hMt:Y3 tm:=trivial
  have hgd:ZF ch .v:=Zcw
  refine wpAny_call ?_
  k_dflt cell_enter
  k_steps
  · rename News _ _ _ _=>nN
    have nD:=Zd nN (by ktr_unf)
    exact ret _ _ _ _ _ _ _ _ _ _ _ _ (by k_asm) (Zc nN (by ktr_rel)) (Zb nD (by ktr_rel)) htd' hdt' htm' hS' (by assumption) (by tb_start) (by assumption) (by tb_start)
  · rename News _ _ _ _=>nN
    have nD:=Zd nN (by ktr_unf)
    exact ret _ _ _ _ _ _ _ _ _ _ _ _ (by k_asm) (Zc nN (by ktr_rel)) (Zb nD (by ktr_rel)) htd' hdt' htm' hS' (by assumption) (by tb_start) (by assumption) (by tb_start)
omit B F X T hk in
theorem ZeY:Us Z6:=by
  delta Us cF
  k_extra "gS"
  exists Zf.h _ _,TX
  exists Zf.a _ _,sym,sd,tl,an,fl,fn,n,wl,wi,gj,ge,sn,wj,we,idx,tm
  exists Zf.n _ _,act
  exists Zf.z _ _,mv,past
  exists Zf.vj _ _,jy
  exists Zf.v _ _,owl,owi
  exists Zf.va _ _,kwl
  exists Zf.y _ _,kwi
  exists Zf.u _ _,gv
  exists Zf.m _ _,k
  exists Zf.w _ _,codes
  exists Zf.o _ _,ti,ta,tn,t1,t2
  exists Zf.t _ _,FN
  exists Zf.b _ _,S,news,rest
  intro B F X T hk N P hS D hm1 hm2 mw1 hwl hwk mw2 hwi hwv mgv hg hlen hidx hnn hb hb' hdp hun ret
  delta Zq at *
  have N₁:News h₀ L s.heap ((wj,Zg gj idx past act ti ta we)::(tm,({cls :=.type "tuple",data :=.seq [Value.str (.ofString "i") t1,Value.int k t2].toArray}:Obj))::(S++rest)):=Ze N P.perm
  have D₁:Za ((wj,Zg gj idx past act ti ta we)::(tm,({cls :=.type "tuple",data :=.seq [Value.str (.ofString "i") t1,Value.int k t2].toArray}:Obj))::(S++rest)):=D.perm P.perm
  clear N D P
  have hMt:Y3 tm:=trivial
  refine wpAny_call ?_
  k_dflt cell_enter
  k_steps
  · rename News _ _ _ _=>nN
    have nD:=Zd nN (by ktr_unf)
    exact ret _ _ idx TT' _ _ past _ _ _ _ _ (by k_asm) (Zc nN (by ktr_rel)) (Zb nD (by ktr_rel)) (.inl ⟨dd',rfl,.inl ⟨⟨d1',hw1',her'⟩,rfl,rfl⟩⟩) hdt' (hsb' _ (.head _)) hS' (by assumption) (by tb_start) (by assumption) (by tb_start)
omit B F X T hk in
theorem ZeX:Ur Z6:=by
  delta Ur cF
  k_extra "gS"
  exists Zf.h _ _,TX
  exists Zf.a _ _,sym,sd,tl,an,fl,fn,n,wl,wi,gj,ge,i,sn,wj,we,idx,tm
  exists Zf.n _ _,x,act
  exists Zf.z _ _,mv,past
  exists Zf.vj _ _,jy
  exists Zf.v _ _,owl,owi
  exists Zf.va _ _,kwl
  exists Zf.y _ _,kwi
  exists Zf.u _ _,gv
  exists Zf.w _ _,codes
  exists Zf.o _ _,ti,ta,tn,t1,t2
  exists Zf.t _ _,FN
  exists Zf.b _ _,S,news,rest
  intro B F X T hk N P hS D hm1 hm2 mw1 hwl hwk mw2 hwi hwv mgv hg hlen hidx hnn hb hb' hdp hun ret
  delta Zq at *
  have N₁:News h₀ L s.heap ((wj,Zg gj idx past act ti ta we)::(tm,({cls :=.type "tuple",data :=.seq [Value.str (.ofString "a") t1,Value.int (i:Int) t2].toArray}:Obj))::(S++rest)):=Ze N P.perm
  have D₁:Za ((wj,Zg gj idx past act ti ta we)::(tm,({cls :=.type "tuple",data :=.seq [Value.str (.ofString "a") t1,Value.int (i:Int) t2].toArray}:Obj))::(S++rest)):=D.perm P.perm
  clear N D P
  have hMt:Y3 tm:=trivial
  refine wpAny_call ?_
  k_dflt cell_enter
  k_steps
  · rename News _ _ _ _=>nN
    have nD:=Zd nN (by ktr_unf)
    exact ret _ _ idx TT' _ _ past _ _ _ _ _ (by k_asm) (Zc nN (by ktr_rel)) (Zb nD (by ktr_rel)) (.inl ⟨dd',rfl,.inl ⟨⟨d1',hw1',her'⟩,rfl,rfl⟩⟩) hdt' (hsb' _ (.head _)) hS' (by assumption) (by tb_start) (by assumption) (by tb_start)
omit B F X T hk in
theorem ZeZ:Ut Z6:=by
  delta Ut cF
  k_extra "gS"
  exists Zf.h _ _,TX
  exists Zf.a _ _,sym,sd,tl,an,fl,fn,n,wl,wi,gj,ge,i,sn,wj,we,idx,tm
  exists Zf.n _ _,x,act
  exists Zf.z _ _,mv,past
  exists Zf.vj _ _,jy
  exists Zf.v _ _,owl,owi
  exists Zf.va _ _,kwl
  exists Zf.y _ _,kwi
  exists Zf.u _ _,gv
  exists Zf.w _ _,codes
  exists Zf.o _ _,ti,ta,tn,t1,t2
  exists Zf.t _ _,FN
  exists Zf.b _ _,S,news,rest
  intro B F X T hk N P hS D hm1 hm2 mw1 hwl hwk mw2 hwi hwv mgv hg hi hxl hlen hidx hnn hb hb' hdp hun ret
  delta Zq at *
  have N₁:News h₀ L s.heap ((wj,Zg gj idx past act ti ta we)::(tm,({cls :=.type "tuple",data :=.seq [Value.str (.ofString "a") t1,Value.int (i:Int) t2].toArray}:Obj))::(S++rest)):=Ze N P.perm
  have D₁:Za ((wj,Zg gj idx past act ti ta we)::(tm,({cls :=.type "tuple",data :=.seq [Value.str (.ofString "a") t1,Value.int (i:Int) t2].toArray}:Obj))::(S++rest)):=D.perm P.perm
  clear N D P
  have hMt:Y3 tm:=trivial
  refine wpAny_call ?_
  k_dflt cell_enter
  k_steps
  · rename News _ _ _ _=>nN
    have nD:=Zd nN (by ktr_unf)
    exact ret _ _ idx TT' _ _ past _ _ _ _ _ (by k_asm) (Zc nN (by ktr_rel)) (Zb nD (by ktr_rel)) (.inl ⟨dd',rfl,.inl ⟨⟨fun h9=>h9.elim (fun z=>by tb_start) (fun z=>by tb_start),d1',hw1',her'⟩,rfl,rfl⟩⟩) hdt' (hsb' _ (.head _)) hS' (by assumption) (by tb_start) (by assumption) (by tb_start)
  · rename News _ _ _ _=>nN
    have nD:=Zd nN (by ktr_unf)
    exact ret _ _ _ _ _ _ _ _ _ _ _ _ (by k_asm) (Zc nN (by ktr_rel)) (Zb nD (by ktr_rel)) htd' hdt' htm' hS' (by assumption) (by tb_start) (by assumption) (by tb_start)
  · rename News _ _ _ _=>nN
    have nD:=Zd nN (by ktr_unf)
    exact ret _ _ _ _ _ _ _ _ _ _ _ _ (by k_asm) (Zc nN (by ktr_rel)) (Zb nD (by ktr_rel)) htd' hdt' htm' hS' (by assumption) (by tb_start) (by assumption) (by tb_start)
omit B F X T hk in
theorem ZeW:Uq Z6:=by
  delta Uq cF
  k_extra "gS"
  exists Zf.h _ _,TX
  exists Zf.a _ _,sym,sd,tl,an,fl,fn,n,wl,wi,gj,ge,sn,wj,we,idx,tm
  exists Zf.n _ _,act
  exists Zf.z _ _,mv,past
  exists Zf.vj _ _,jy
  exists Zf.v _ _,owl,owi
  exists Zf.va _ _,kwl
  exists Zf.y _ _,kwi
  exists Zf.u _ _,gv
  exists Zf.m _ _,k
  exists Zf.w _ _,codes
  exists Zf.o _ _,ti,ta,tn,t1,t2
  exists Zf.t _ _,FN
  exists Zf.b _ _,S,news,rest
  intro B F X T hk N P hS D hm1 hm2 mw1 hwl hwk mw2 hwi hwv mgv hg hlen hidx hnn hb hb' hdp hun ret
  delta Zq at *
  have N₁:News h₀ L s.heap ((wj,Zg gj idx past act ti ta we)::(tm,({cls :=.type "tuple",data :=.seq [Value.str (.ofString "i") t1,Value.int k t2].toArray}:Obj))::(S++rest)):=Ze N P.perm
  have D₁:Za ((wj,Zg gj idx past act ti ta we)::(tm,({cls :=.type "tuple",data :=.seq [Value.str (.ofString "i") t1,Value.int k t2].toArray}:Obj))::(S++rest)):=D.perm P.perm
  clear N D P
  have hMt:Y3 tm:=trivial
  refine wpAny_call ?_
  k_dflt cell_enter
  k_steps
  · rename News _ _ _ _=>nN
    have nD:=Zd nN (by ktr_unf)
    exact ret _ _ idx ((tm,_)::TT') _ _ past _ _ _ _ _ (by k_asm) (Zc nN (by ktr_rel)) (Zb nD (by ktr_rel)) (.inl ⟨dd',rfl,.inl ⟨⟨.inl (by assumption),d1',hw1',her'⟩,rfl,rfl⟩⟩) (DatIn.mono (fun _ hq =>.tail _ hq) hdt') (.head _) hS' (by assumption) (by tb_start) (by assumption) (by tb_start)
  · rename News _ _ _ _=>nN
    have nD:=Zd nN (by ktr_unf)
    exact ret _ _ idx ((tm,_)::TT') _ _ past _ _ _ _ _ (by k_asm) (Zc nN (by ktr_rel)) (Zb nD (by ktr_rel)) (.inl ⟨dd',rfl,.inl ⟨⟨.inr (by assumption),d1',hw1',her'⟩,rfl,rfl⟩⟩) (DatIn.mono (fun _ hq =>.tail _ hq) hdt') (.head _) hS' (by assumption) (by tb_start) (by assumption) (by tb_start)
  · rename News _ _ _ _=>nN
    have nD:=Zd nN (by ktr_unf)
    exact ret _ _ _ _ _ _ _ _ _ _ _ _ (by k_asm) (Zc nN (by ktr_rel)) (Zb nD (by ktr_rel)) htd' hdt' htm' hS' (by assumption) (by tb_start) (by assumption) (by tb_start)
omit B F X T hk in
theorem ZT:∀ c:Zf,Vl c∧Us c∧Ur c∧Ut c∧Uq c:=ZN (k:=Z6) rfl ⟨Zcu,ZeY,ZeX,ZeZ,ZeW⟩
omit B F X T hk in
theorem ZgE {mv ch sym sd tl an fl fn n jy wl wi gj ge owl owi kwl kwi gv sn wj we idx tm past act codes ti ta tn t1 t2 TX FN S news rest}:@Wc w p loose mean mg mb dp un gd cn cs a ccd cl outer A₀ base h₀ L m s Q E mv ch sym sd tl an fl fn n jy wl wi gj ge owl owi kwl kwi gv sn wj we idx tm past act codes ti ta tn t1 t2 TX FN S news rest:=(ZT (cS w p loose mean mg mb m gd cn cs ccd cl outer A₀ base h₀ s Q E |>.sh (gt dC.h [loose,TX]) |>.sa (gt dC.a [dp,un,a,L,sym,sd,tl,an,fl,fn,n,wl,wi,gj,ge,sn,wj,we,idx,tm]) |>.sn (gt dC.n [cn,act]) |>.sz (gt dC.z [mv,ch,past]) |>.svj (gt dC.vj [jy]) |>.sv (gt dC.v [owl,owi]) |>.sva (gt dC.va [kwl]) |>.sy (gt dC.y [kwi]) |>.su (gt dC.u [gv]) |>.sw (gt dC.w [codes]) |>.so (gt dC.o [ti,ta,tn,t1,t2]) |>.st (gt dC.t [FN]) |>.sb (gt dC.b [S,news,rest]))).1
omit B F X T hk in
theorem ZjI {mv sym sd tl an fl fn n jy wl wi gj ge owl owi kwl kwi gv k sn wj we idx tm past act codes ti ta tn t1 t2 TX FN S news rest}:@ZaG w p loose mean mg mb dp un gd cn cs a ccd cl outer A₀ base h₀ L m s Q E mv sym sd tl an fl fn n jy wl wi gj ge owl owi kwl kwi gv k sn wj we idx tm past act codes ti ta tn t1 t2 TX FN S news rest:=(ZT (cS w p loose mean mg mb m gd cn cs ccd cl outer A₀ base h₀ s Q E |>.sh (gt dC.h [loose,TX]) |>.sa (gt dC.a [dp,un,a,L,sym,sd,tl,an,fl,fn,n,wl,wi,gj,ge,sn,wj,we,idx,tm]) |>.sn (gt dC.n [cn,act]) |>.sz (gt dC.z [mv,past]) |>.svj (gt dC.vj [jy]) |>.sv (gt dC.v [owl,owi]) |>.sva (gt dC.va [kwl]) |>.sy (gt dC.y [kwi]) |>.su (gt dC.u [gv]) |>.sm (gt dC.m [k]) |>.sw (gt dC.w [codes]) |>.so (gt dC.o [ti,ta,tn,t1,t2]) |>.st (gt dC.t [FN]) |>.sb (gt dC.b [S,news,rest]))).2.1
omit B F X T hk in
theorem ZjH {mv sym sd tl an fl fn n jy wl wi gj ge owl owi kwl kwi gv i x sn wj we idx tm past act codes ti ta tn t1 t2 TX FN S news rest}:@ZaF w p loose mean mg mb dp un gd cn cs a ccd cl outer A₀ base h₀ L m s Q E mv sym sd tl an fl fn n jy wl wi gj ge owl owi kwl kwi gv i x sn wj we idx tm past act codes ti ta tn t1 t2 TX FN S news rest:=(ZT (cS w p loose mean mg mb m gd cn cs ccd cl outer A₀ base h₀ s Q E |>.sh (gt dC.h [loose,TX]) |>.sa (gt dC.a [dp,un,a,L,sym,sd,tl,an,fl,fn,n,wl,wi,gj,ge,i,sn,wj,we,idx,tm]) |>.sn (gt dC.n [cn,x,act]) |>.sz (gt dC.z [mv,past]) |>.svj (gt dC.vj [jy]) |>.sv (gt dC.v [owl,owi]) |>.sva (gt dC.va [kwl]) |>.sy (gt dC.y [kwi]) |>.su (gt dC.u [gv]) |>.sw (gt dC.w [codes]) |>.so (gt dC.o [ti,ta,tn,t1,t2]) |>.st (gt dC.t [FN]) |>.sb (gt dC.b [S,news,rest]))).2.2.1
omit B F X T hk in
theorem ZjJ {mv sym sd tl an fl fn n jy wl wi gj ge owl owi kwl kwi gv i x sn wj we idx tm past act codes ti ta tn t1 t2 TX FN S news rest}:@ZaH w p loose mean mg mb dp un gd cn cs a ccd cl outer A₀ base h₀ L m s Q E mv sym sd tl an fl fn n jy wl wi gj ge owl owi kwl kwi gv i x sn wj we idx tm past act codes ti ta tn t1 t2 TX FN S news rest:=(ZT (cS w p loose mean mg mb m gd cn cs ccd cl outer A₀ base h₀ s Q E |>.sh (gt dC.h [loose,TX]) |>.sa (gt dC.a [dp,un,a,L,sym,sd,tl,an,fl,fn,n,wl,wi,gj,ge,i,sn,wj,we,idx,tm]) |>.sn (gt dC.n [cn,x,act]) |>.sz (gt dC.z [mv,past]) |>.svj (gt dC.vj [jy]) |>.sv (gt dC.v [owl,owi]) |>.sva (gt dC.va [kwl]) |>.sy (gt dC.y [kwi]) |>.su (gt dC.u [gv]) |>.sw (gt dC.w [codes]) |>.so (gt dC.o [ti,ta,tn,t1,t2]) |>.st (gt dC.t [FN]) |>.sb (gt dC.b [S,news,rest]))).2.2.2.1
omit B F X T hk in
theorem ZjG {mv sym sd tl an fl fn n jy wl wi gj ge owl owi kwl kwi gv k sn wj we idx tm past act codes ti ta tn t1 t2 TX FN S news rest}:@ZaE w p loose mean mg mb dp un gd cn cs a ccd cl outer A₀ base h₀ L m s Q E mv sym sd tl an fl fn n jy wl wi gj ge owl owi kwl kwi gv k sn wj we idx tm past act codes ti ta tn t1 t2 TX FN S news rest:=(ZT (cS w p loose mean mg mb m gd cn cs ccd cl outer A₀ base h₀ s Q E |>.sh (gt dC.h [loose,TX]) |>.sa (gt dC.a [dp,un,a,L,sym,sd,tl,an,fl,fn,n,wl,wi,gj,ge,sn,wj,we,idx,tm]) |>.sn (gt dC.n [cn,act]) |>.sz (gt dC.z [mv,past]) |>.svj (gt dC.vj [jy]) |>.sv (gt dC.v [owl,owi]) |>.sva (gt dC.va [kwl]) |>.sy (gt dC.y [kwi]) |>.su (gt dC.u [gv]) |>.sm (gt dC.m [k]) |>.sw (gt dC.w [codes]) |>.so (gt dC.o [ti,ta,tn,t1,t2]) |>.st (gt dC.t [FN]) |>.sb (gt dC.b [S,news,rest]))).2.2.2.2
end
section
variable {w:World}{p:Program}{loose:List Str}{mean:ExcName→Option Value}{mg mb:Str→Option Value}
   {dp un:Nat}{gd:Option (List Code)}{cn:Str}{cs:Scope}{a:Addr}{ccd:Value}{cl:List (Str×Addr)}{outer:List Env}{A₀:Around}{base h₀:Heap}{L:Addr}{m:Str→Option Value}{s:Shared}{Q E:Value→Shared→Prop}
   (B:Below A₀ base outer h₀)(F:Fr h₀ L s.heap m)(X:(K w.params).In h₀)(T:Top p loose mean mg mb h₀)(hk:cs.kind = .function)
include B F X T hk
theorem Zet {mv ch:Bool}{tg:Tgt}{sym sd tl an fl fn n:Nat}{jy:Hs}{wl wi gj ge:Nat}{owl owi:Obj}{kwl:List (Str×Value)}{kwi:List (Int×Value)}{gv:List Value}{sn wj we idx tm:Nat}{past:Bool}{act:Str}{codes:List Int}{ti ta tn t1 t2:Tok}{TX:List Str}{FN:List (Int×Int)}{S news rest:List (Addr×Obj)}
   (N:News h₀ L s.heap news)(P:Tk ((wj,Zg gj idx past act ti ta we)::(tm,ZO tg t1 t2)::S) news rest)(hS:Zh w tl an fl fn TX FN S)(D:Za news)(hm1:(sym,instObj 154 sd)∈rest)(hm2:(sd,Zq jy tl an fl fn n)∈rest)(mw1:(wl,owl)∈rest)(hwl:owl.IsDictOf (strKind PR w) kwl)(hwk:valueAt kwl (Str.ofString "in")=some (.ref wi))(mw2:(wi,owi)∈rest)(hwi:owi.IsDictOf (intKind PR w) kwi)(hwv:valueAt kwi (sn:Int)=some (.ref wj))(mgv:(gj,W.listOf gv.toArray ge)∈rest)(hg:IntsAre gv codes)(hit:Zaf TX tg)
   (hlen:codes.length<50)(hidx:idx<900)(hnn:∀ c∈codes,0≤c)(hb:TX.length<20000)(hb':FN.length<20000)
   (hdp:dp+50<recursionLimit)(hun:un+400<cLine)
   (ret:∀ (t we' idx':Nat)(R:List (Addr×Obj))(rd:W.Dat)(ti':Tok)(past':Bool)(TX':List Str)(FN':List (Int×Int))(S':List (Addr×Obj))(h':Heap)(tk':Nat),
      Fr h₀ L h' m→News h₀ L h' (R++((wj,Zg gj idx' past' act ti' ta we')::(S'++rest)))→Za (R++((wj,Zg gj idx' past' act ti' ta we')::(S'++rest))) →
      Yl TX' FN' ch mv sn past codes idx act tg rd idx' past'→W.DatIn R (.ref t) rd→(tm,ZO tg t1 t2)∈R→Zh w tl an fl fn TX' FN' S'→TX<+:TX'→TX'.length≤TX.length+6→FN<+:FN'→FN'.length≤FN.length+3→Q (.ref t) {s with heap:=h',toks:=tk'}) :
   wpAny (model PR w) (ktrTop dp un gd cn cs L a ccd cl outer) (call (.ref 1149) [.ref sym,.ref wl,.int sn tn,.ref tm,.bool ch,.bool mv]) Q E s:=by
  delta Zq at *
  cases tg with
  | v=>exact ZgE B F X T hk (N:=N) (P:=P) (hS:=hS) (D:=D) (hm1:=hm1) (hm2:=hm2) (mw1:=mw1) (hwl:=hwl) (hwk:=hwk) (mw2:=mw2) (hwi:=hwi) (hwv:=hwv) (mgv:=mgv) (hg:=hg) (hlen:=hlen) (hidx:=hidx) (hnn:=hnn) (hb:=hb) (hb':=hb') (hdp:=hdp) (hun:=hun) (ret:=ret)
  | a i x=>cases ch with
    | true=>exact ZjJ B F X T hk (N:=N) (P:=P) (hS:=hS) (D:=D) (hm1:=hm1) (hm2:=hm2) (mw1:=mw1) (hwl:=hwl) (hwk:=hwk) (mw2:=mw2) (hwi:=hwi) (hwv:=hwv) (mgv:=mgv) (hg:=hg) (hi:=hit.1) (hxl:=hit.2) (hlen:=hlen) (hidx:=hidx) (hnn:=hnn) (hb:=hb) (hb':=hb') (hdp:=hdp) (hun:=hun) (ret:=ret)
    | false=>exact ZjH B F X T hk (N:=N) (P:=P) (hS:=hS) (D:=D) (hm1:=hm1) (hm2:=hm2) (mw1:=mw1) (hwl:=hwl) (hwk:=hwk) (mw2:=mw2) (hwi:=hwi) (hwv:=hwv) (mgv:=mgv) (hg:=hg) (hlen:=hlen) (hidx:=hidx) (hnn:=hnn) (hb:=hb) (hb':=hb') (hdp:=hdp) (hun:=hun) (ret:=ret)
  | i k=>cases ch with
    | true=>exact ZjI B F X T hk (N:=N) (P:=P) (hS:=hS) (D:=D) (hm1:=hm1) (hm2:=hm2) (mw1:=mw1) (hwl:=hwl) (hwk:=hwk) (mw2:=mw2) (hwi:=hwi) (hwv:=hwv) (mgv:=mgv) (hg:=hg) (hlen:=hlen) (hidx:=hidx) (hnn:=hnn) (hb:=hb) (hb':=hb') (hdp:=hdp) (hun:=hun) (ret:=ret)
    | false=>exact ZjG B F X T hk (N:=N) (P:=P) (hS:=hS) (D:=D) (hm1:=hm1) (hm2:=hm2) (mw1:=mw1) (hwl:=hwl) (hwk:=hwk) (mw2:=mw2) (hwi:=hwi) (hwv:=hwv) (mgv:=mgv) (hg:=hg) (hlen:=hlen) (hidx:=hidx) (hnn:=hnn) (hb:=hb) (hb':=hb') (hdp:=hdp) (hun:=hun) (ret:=ret)
end
theorem Zm4:True:=by
  walk_at "RST"
  trivial
noncomputable def ZK (cl' len:Nat)(o:Obj):Prop:=∃ (i c sd:Int)(t1 t2 t3:Tok)(ep:Nat),o=Vm cl' i c sd t1 t2 t3 ep∧0≤i∧i≤len∧0≤c∧0≤sd∧sd<2147483647
theorem Zgd {prog:Program}{w:World}{A:Around}{E:Value→Shared→Prop}{s:Shared}{h₀:Heap}{L l:Addr}{news:List (Addr×Obj)}{a b c d:Nat}{n:Nat}{k:Int}{u:Tok}{Q:Value→Shared→Prop}{value slice:PySem.Expr}(N:News h₀ L s.heap news)(hm:(l,W.listOf [.ref a,.ref b,.ref c,.ref d].toArray n)∈news)(h0:0≤k)(hfit:k<4)(h:∀ x:Nat,x=a∨x=b∨x=c∨x=d→Q (.ref x) s)
    (hs:subscripted slice false (.ref l) (.int k u)=operate [.ref l,.int k u] (getItem (.ref l) (.int k u)):=by with_unfolding_all rfl) (hg:∀ r,letTemporaryGo value (.ref l) r=pure ():=by intro _;with_unfolding_all rfl) :
    wpAny (model prog w) A (subscriptTail value slice (.ref l) (.int k u)) Q E s:=by
  have hc:k=0∨k=1∨k=2∨k=3:=by tb_start
  rcases hc with rfl|rfl|rfl|rfl
  · exact ZA N hm (by decide) (by decide) rfl rfl (h a (.inl rfl)) hs hg
  · exact ZA N hm (by decide) (by decide) rfl rfl (h b (.inr (.inl rfl))) hs hg
  · exact ZA N hm (by decide) (by decide) rfl rfl (h c (.inr (.inr (.inl rfl)))) hs hg
  · exact ZA N hm (by decide) (by decide) rfl rfl (h d (.inr (.inr (.inr rfl)))) hs hg
theorem Zge {prog:Program}{w:World}{A:Around}{E:Value→Shared→Prop}{s:Shared}{h₀:Heap}{L l:Addr}{news:List (Addr×Obj)}{a b:Int}{ta tb:Tok}{n:Nat}{k:Int}{u:Tok}{Q:Value→Shared→Prop}{value slice:PySem.Expr}(N:News h₀ L s.heap news)(hm:(l,W.listOf [.int a ta,.int b tb].toArray n)∈news)(h0:0≤k)(hfit:k<2)(h:∀ (x:Int)(t:Tok),x=a∨x=b→Q (.int x t) s)
    (hs:subscripted slice false (.ref l) (.int k u)=operate [.ref l,.int k u] (getItem (.ref l) (.int k u)):=by with_unfolding_all rfl) (hg:∀ r,letTemporaryGo value (.ref l) r=pure ():=by intro _;with_unfolding_all rfl) :
    wpAny (model prog w) A (subscriptTail value slice (.ref l) (.int k u)) Q E s:=by
  have hc:k=0∨k=1:=by tb_start
  rcases hc with rfl|rfl
  · exact ZA N hm (by decide) (by decide) rfl rfl (h a ta (.inl rfl)) hs hg
  · exact ZA N hm (by decide) (by decide) rfl rfl (h b tb (.inr rfl)) hs hg
theorem Zm3:True:=by
  walk_at "G loop"
  trivial
section
variable {w:World}{p:Program}{loose:List Str}{mean:ExcName→Option Value}{mg mb:Str→Option Value}
   {dp un:Nat}{gd:Option (List Code)}{cn:Str}{cs:Scope}{a:Addr}{ccd:Value}{cl:List (Str×Addr)}{outer:List Env}{A₀:Around}{base h₀:Heap}{L:Addr}{m:Str→Option Value}{s:Shared}{Q E:Value→Shared→Prop}
   (B:Below A₀ base outer h₀)(F:Fr h₀ L s.heap m)(X:(K w.params).In h₀)(T:Top p loose mean mg mb h₀)(hk:cs.kind = .function)
include B F X T hk
theorem UL {hl cl':Nat}{ho:Obj}{cells:List Value}{ns:List Int}{lim:Int}{t4:Tok}{ep':Nat}{news rest:List (Addr×Obj)}
   (N:News h₀ L s.heap news)(P:Tk [(hl,ho)] news rest)(D:Za news)(hcl:(cl',W.listOf cells.toArray ep')∈rest)
   (hi:IntsAre cells ns)(hlen:ns.length<100)(hh:ZK cl' ns.length ho)(q6:0<lim)(q7:lim<100)
   (hdp:dp+5<recursionLimit)(hun:un+40<cLine)
   (ret:∀ (d:Int)(t:Tok)(ho':Obj)(h':Heap)(tk':Nat),ZK cl' ns.length ho'→0≤d→d<lim→Fr h₀ L h' m→News h₀ L h' ((hl,ho')::rest)→Za ((hl,ho')::rest)→Q (.int d t) {s with heap:=h',toks:=tk'}) :
   wpAny (model PR w) (ktrTop dp un gd cn cs L a ccd cl outer) (call (.ref 1113) [.ref hl,.int lim t4]) Q E s:=by
  obtain ⟨i,c,sd,t1,t2,t3,ep,rfl,q1,q2,q3,q4,q5⟩:=hh
  exact Zgp B F X T hk (N:=N) (P:=P) (D:=D) (hcl:=hcl) (hi:=hi) (hlen:=hlen) (q1:=q1) (q2:=q2) (q3:=q3) (q4:=q4) (q5:=q5) (q6:=q6) (q7:=q7) (hdp:=hdp) (hun:=hun)
    (ret:=fun d i' c' sd' t t1' t2' t3' ep' h' tk' F' N' D' a1 a2 a3 a4 a5 a6 a7=>ret d t _ h' tk' ⟨i',c',sd',t1',t2',t3',ep',rfl,a3,a4,a5,a6,a7⟩ a1 a2 F' N' D')
theorem Zm2:True:=by
  walk_at "G slim"
  k_with "call ref" =>(k_here;(with_reducible show wpAny _ _ (call (Value.ref 88) _) _ _ _);k_dflt (refine' ZW (B:=?zB) (F:=?zF) (X:=?zX) (T:=?zT) (hk:=?zhk) (N:=?zN) (hdp:=?zhdp) (hun:=?zhun) (hm1:=?zhm1) (hm2:=?zhm2) (hS:=?zhS) (P:=?zP) (D:=?zD) (hb:=?zhb) (ret:=?_);k_extra "z6";(case zhS=>first|with_reducible assumption|k_asm);(case zP=>ktr_rel);(case zhm1=>k_mem);(case zhm2=>k_mem);(case zhb=>tb_start);(case zhdp=>ktr_room);(case zhun=>ktr_units);(case zD=>ktr_unf));intro i' t' TX' S' h' tk' hi' pre' len' hS' F' N' D';(try dsimp only))
  k_with "call ref" =>(k_here;(with_reducible show wpAny _ _ (call (Value.ref 1113) _) _ _ _);k_dflt (refine' UL (B:=?zB) (F:=?zF) (X:=?zX) (T:=?zT) (hk:=?zhk) (N:=?zN) (hdp:=?zhdp) (hun:=?zhun) (hcl:=?zhcl) (hh:=?zhh) (hi:=?zhi) (hlen:=?zhlen) (P:=?zP) (D:=?zD) (q6:=?zq6) (q7:=?zq7) (ret:=?_);k_extra "z6";(case zhh=>with_reducible assumption);(case zP=>ktr_rel);(case zhcl=>k_mem);(case zhi=>first|with_reducible assumption|k_asm);(case zhlen=>first|with_reducible assumption|k_asm);(case zq6=>tb_start);(case zq7=>tb_start);(case zhdp=>ktr_room);(case zhun=>ktr_units);(case zD=>ktr_unf));intro d' t' ho' h' tk' hh' l0' l1' F' N' D';(try dsimp only))
  k_with "subscriptTail" =>(k_here;(with_reducible show wpAny _ _ (subscriptTail _ _ (Value.ref _) (Value.int _ _)) _ _ _);k_dflt (refine' Zgd ?N ?m ?h0 ?hf ?_;(case N=>k_asm);(case m=>k_mem);(case h0=>tb_start);(case hf=>tb_start));intro x' hx')
  k_with "subscriptTail" =>(k_here;(with_reducible show wpAny _ _ (subscriptTail _ _ (Value.ref _) (Value.int _ _)) _ _ _);k_dflt (refine' Zge ?N ?m ?h0 ?hf ?_;(case N=>k_asm);(case m=>k_mem);(case h0=>with_reducible assumption);(case hf=>with_reducible assumption));intro x' y' hx')
  trivial
omit B F X T hk
noncomputable def UA {ch:Bool}{hl cl':Nat}{ho:Obj}{cells:List Value}{ns:List Int}{ep' sym sd tl an fl fn n:Nat}{jy:Hs}{TX:List Str}{FN:List (Int×Int)}{S news rest:List (Addr×Obj)}:Prop:=∀ (B:Below A₀ base outer h₀)(F:Fr h₀ L s.heap m)(X:(K w.params).In h₀)(T:Top p loose mean mg mb h₀)(hk:cs.kind = .function)(N:News h₀ L s.heap news)(P:Tk ((hl,ho)::S) news rest)(hS:Zh w tl an fl fn TX FN S)(D:Za news)(hm1:(sym,instObj 154 sd)∈rest)(hm2:(sd,Zq jy tl an fl fn n)∈rest)(hcl:(cl',W.listOf cells.toArray ep')∈rest)(hi:IntsAre cells ns)(hlen:ns.length<100)(hh:ZK cl' ns.length ho)(hb:TX.length<20000)(h0:TX[0]? = some (.ofString "[]"))(h24:TX[24]? = some (.ofString "end_of_file"))(hdp:dp+30<recursionLimit)(hun:un+200<cLine)(ret:∀ (tm:Nat)(tg:Tgt)(t1 t2:Tok)(ho':Obj)(TX':List Str)(S':List (Addr×Obj))(h':Heap)(tk':Nat),Zaf TX' tg→ZK cl' ns.length ho'→Zh w tl an fl fn TX' FN S'→TX<+:TX'→TX'.length≤TX.length+2→Fr h₀ L h' m→News h₀ L h' ((tm,ZO tg t1 t2)::(hl,ho')::(S'++rest))→Za ((tm,ZO tg t1 t2)::(hl,ho')::(S'++rest))→Q (.ref tm) {s with heap:=h',toks:=tk'}),
   wpAny (model PR w) (ktrTop dp un gd cn cs L a ccd cl outer) (call (.ref 1142) [.ref hl,.ref sym,.bool ch]) Q E s
noncomputable def YT (c:Zf):Prop:=@cF _ (@UA) c (c.z 0) (c.a 4) (c.a 5) (c.v 0) (c.u 0) (c.w 0) (c.a 6) (c.a 7) (c.a 8) (c.a 9) (c.a 10) (c.a 11) (c.a 12) (c.a 13) (c.vj 0) (c.h 1) (c.t 0) (c.b 0) (c.b 1) (c.b 2)
noncomputable def Uz:Zf:=ZM Zj YT
theorem WA:YT Uz:=by
  delta YT cF
  k_extra "gS"
  exists Zf.h _ _,TX
  exists Zf.a _ _,hl,cl',ep',sym,sd,tl,an,fl,fn,n
  exists Zf.z _ _,ch
  exists Zf.v _ _,ho
  exists Zf.u _ _,cells
  exists Zf.w _ _,ns
  exists Zf.vj _ _,jy
  exists Zf.t _ _,FN
  exists Zf.b _ _,S,news,rest
  intro B F X T hk N P hS D hm1 hm2 hcl hi hlen hh hb h0 h24 hdp hun ret
  delta Zq at *
  have N₁:News h₀ L s.heap ((hl,ho)::(S++rest)):=Ze N P.perm
  have D₁:Za ((hl,ho)::(S++rest)):=D.perm P.perm
  clear N D P
  refine wpAny_call ?_
  k_dflt cell_enter
  k_steps
  · rename News _ _ _ _=>nN
    have nD:=Zd nN (by ktr_unf)
    exact ret _ (.v) _ _ _ _ _ _ _ trivial hh' hS (List.prefix_refl _) (by tb_start) (by k_asm) (Zc nN (by ktr_rel)) (Zb nD (by ktr_rel))
  · rename News _ _ _ _=>nN
    have nD:=Zd nN (by ktr_unf)
    rcases hx' with rfl|rfl|rfl|rfl
    · exact ret _ (.a _ (.ofString "a")) _ _ _ _ _ _ _ ⟨WI (by assumption) (by assumption),by decide⟩ hh' hS' (List.IsPrefix.trans (by assumption) (by assumption)) (by tb_start) (by k_asm) (Zc nN (by ktr_rel)) (Zb nD (by ktr_rel))
    · exact ret _ (.a 24 (.ofString "end_of_file")) _ _ _ _ _ _ _ ⟨pg2 h24 (by assumption) (by assumption),by decide⟩ hh' hS' (List.IsPrefix.trans (by assumption) (by assumption)) (by tb_start) (by k_asm) (Zc nN (by ktr_rel)) (Zb nD (by ktr_rel))
    · exact ret _ (.a _ (.ofString "ab")) _ _ _ _ _ _ _ ⟨hi',by decide⟩ hh' hS' (List.IsPrefix.trans (by assumption) (by assumption)) (by tb_start) (by k_asm) (Zc nN (by ktr_rel)) (Zb nD (by ktr_rel))
    · exact ret _ (.i 97) _ _ _ _ _ _ _ trivial hh' hS' (List.IsPrefix.trans (by assumption) (by assumption)) (by tb_start) (by k_asm) (Zc nN (by ktr_rel)) (Zb nD (by ktr_rel))
  · rename News _ _ _ _=>nN
    have nD:=Zd nN (by ktr_unf)
    rcases hx' with rfl|rfl|rfl|rfl
    · exact ret _ (.i 97) _ _ _ _ _ _ _ trivial hh' hS (List.prefix_refl _) (by tb_start) (by k_asm) (Zc nN (by ktr_rel)) (Zb nD (by ktr_rel))
    · exact ret _ (.i (-1)) _ _ _ _ _ _ _ trivial hh' hS (List.prefix_refl _) (by tb_start) (by k_asm) (Zc nN (by ktr_rel)) (Zb nD (by ktr_rel))
    · exact ret _ (.i _) _ _ _ _ _ _ _ trivial hh' hS (List.prefix_refl _) (by tb_start) (by k_asm) (Zc nN (by ktr_rel)) (Zb nD (by ktr_rel))
    · exact ret _ (.a 0 (.ofString "[]")) _ _ _ _ _ _ _ ⟨h0,by decide⟩ hh' hS (List.prefix_refl _) (by tb_start) (by k_asm) (Zc nN (by ktr_rel)) (Zb nD (by ktr_rel))
theorem ZbM {ch hl cl' ho cells ns ep' sym sd tl an fl fn n jy TX FN S news rest}:@UA w p loose mean mg mb dp un gd cn cs a ccd cl outer A₀ base h₀ L m s Q E ch hl cl' ho cells ns ep' sym sd tl an fl fn n jy TX FN S news rest:=ZN (k:=Uz) rfl WA (cS w p loose mean mg mb m gd cn cs ccd cl outer A₀ base h₀ s Q E |>.sh (gt dC.h [loose,TX]) |>.sa (gt dC.a [dp,un,a,L,hl,cl',ep',sym,sd,tl,an,fl,fn,n]) |>.sz (gt dC.z [ch]) |>.sv (gt dC.v [ho]) |>.su (gt dC.u [cells]) |>.sw (gt dC.w [ns]) |>.svj (gt dC.vj [jy]) |>.st (gt dC.t [FN]) |>.sb (gt dC.b [S,news,rest]))
include B F X T hk
end
theorem Zm1:True:=by
  walk_at "RST"
  trivial
theorem YX {α:Type}{l:List α}(h:l.Nodup){i j:Nat}{x:α}(hi:l[i]? = some x)(hj:l[j]? = some x):i=j :=
  (List.getElem?_inj (by rcases Nat.lt_or_ge i l.length with q|q;exact q;rw [List.getElem?_eq_none q] at hi;cases hi) h).mp (hi.trans hj.symm)
theorem Y5 {TX:List Str}{x:Str}{d d':W.Dat}(h:TX.Nodup)(a:Zv TX x d)(b:Zv TX x d'):d=d':=by
  obtain ⟨i,hi,rfl⟩:=a
  obtain ⟨j,hj,rfl⟩:=b
  rw [YX h hi hj]
theorem Go {TX:List Str}{FN:List (Int×Int)}{x:Str}{l:List W.Dat}{d d':W.Dat}(h:TX.Nodup)(h':FN.Nodup)(a:ZG TX FN x l d)(b:ZG TX FN x l d'):d=d':=by
  obtain ⟨i,f,hi,hf,rfl⟩:=a
  obtain ⟨j,g,hj,hg,rfl⟩:=b
  have e:=YX h hi hj
  subst e
  rw [YX h' hf hg]
theorem Uv {TX:List Str}{FN:List (Int×Int)}{x:Str}{c d d':W.Dat}(h:TX.Nodup)(h':FN.Nodup)(a:ZY TX FN x c d)(b:ZY TX FN x c d'):d=d':=by
  obtain ⟨e,we,he⟩:=a
  obtain ⟨e',we',he'⟩:=b
  have q:=Y5 h we we'
  subst q
  exact Go h h' he he'
theorem GN {TX:List Str}{FN:List (Int×Int)}{x:Str}{d d':W.Dat}(h:TX.Nodup)(h':FN.Nodup)(a:YB TX FN x d)(b:YB TX FN x d'):d=d':=by
  obtain ⟨e,we,he⟩:=a
  obtain ⟨e',we',he'⟩:=b
  have q:=Y5 h we we'
  subst q
  exact Go h h' he he'
theorem Zb9 {TX:List Str}{FN:List (Int×Int)}{n:Int}{d d':W.Dat}(h:TX.Nodup)(h':FN.Nodup)(a:Jp TX FN n d)(b:Jp TX FN n d'):d=d':=by
  obtain ⟨d1,d2,f,i1,w1,w2,hi,hf,he⟩:=a
  obtain ⟨e1,e2,g,j1,v1,v2,hj,hg,hh⟩:=b
  have q1:=Y5 h w1 v1
  have q2:=Y5 h w2 v2
  have q3:=YX h hi hj
  subst q1 q2 q3
  have q4:=YX h' hf hg
  subst q4
  exact Go h h' he hh
theorem Vs {TX:List Str}{FN:List (Int×Int)}{ch:Bool}{tg:Tgt}{d:W.Dat}(a:Zfj TX FN ch tg d)(g:ZF ch tg):False:=by
  cases tg with
  | v=>cases ch <;> exact a
  | a i x=>cases ch with
    | true=>exact a.1 g
    | false=>exact g
  | i k=>cases ch with
    | true=>exact g
    | false=>exact g a.1
theorem Zff {TX:List Str}{FN:List (Int×Int)}{ch:Bool}{tg:Tgt}{d d':W.Dat}(h:TX.Nodup)(h':FN.Nodup)(a:Zfj TX FN ch tg d)(b:Zfj TX FN ch tg d'):d=d':=by
  cases tg with
  | v=>cases ch <;> exact a.elim
  | a i x=>cases ch with
    | true=>exact Uv h h' a.2 b.2
    | false=>exact Uv h h' a b
  | i k=>cases ch with
    | true=>exact Uv h h' a b
    | false=>exact GN h h' a.2 b.2
theorem ZgC {TX:List Str}{FN:List (Int×Int)}{n:Int}{past:Bool}{codes:List Int}{idx:Nat}{act:Str}{d d':W.Dat}(h:TX.Nodup)(h':FN.Nodup)(a:Jq TX FN n past codes idx act d)(b:Jq TX FN n past codes idx act d'):d=d':=by
  rcases a with a|a <;> rcases b with b|b
  · exact Zb9 h h' a.2.2.2 b.2.2.2
  · exact absurd b.1 (Nat.not_lt.mpr a.2.1)
  · exact absurd a.1 (Nat.not_lt.mpr b.2.1)
  · exact GN h h' a.2.2 b.2.2
theorem ZfZ {TX:List Str}{FN:List (Int×Int)}{n:Int}{past:Bool}{codes:List Int}{idx:Nat}{act:Str}{d:W.Dat}(a:Jq TX FN n past codes idx act d)(b:Y4 past codes idx act):False:=by
  rcases a with a|a
  · exact b.1 ⟨a.1,a.2.1,a.2.2.1⟩
  · exact b.2 ⟨a.1,a.2.1⟩
noncomputable def Uy {TX:List Str}{FN:List (Int×Int)}{ch mv:Bool}{sn:Int}{past:Bool}{codes:List Int}{idx:Nat}{act:Str}{tg:Tgt}{rd rd':W.Dat}{i1 i2:Nat}{p1 p2:Bool}:Prop:=∀ (h:TX.Nodup)(h':FN.Nodup)(a:Yl TX FN ch mv sn past codes idx act tg rd i1 p1)(b:Yl TX FN ch mv sn past codes idx act tg rd' i2 p2),
   rd=rd'∧i1=i2∧p1=p2
noncomputable def YS (c:Zf):Prop:=@Uy (c.h 0) (c.t 0) (c.z 0) (c.z 1) (c.m 0) (c.z 2) (c.w 0) (c.a 0) (c.n 0) (c.vd 0) (c.vb 0) (c.vb 1) (c.a 1) (c.a 2) (c.z 3) (c.z 4)
noncomputable def Ux:Zf:=ZM Zj YS
theorem Wz:YS Ux:=by
  delta YS
  exists Zf.h _ _,TX
  exists Zf.t _ _,FN
  exists Zf.z _ _,ch,mv,past,p1,p2
  exists Zf.m _ _,sn
  exists Zf.w _ _,codes
  exists Zf.a _ _,idx,i1,i2
  exists Zf.n _ _,act
  exists Zf.vd _ _,tg
  exists Zf.vb _ _,rd,rd'
  intro h h' a b
  rcases a with ⟨d,rfl,a⟩|⟨g,ok,ha,hp,v,r,rfl⟩ <;> rcases b with ⟨d',rfl,b⟩|⟨g',ok',hb,hq,v',r',rfl⟩
  · rcases a with ⟨a,rfl,rfl⟩|⟨g,a,rfl,rfl⟩ <;> rcases b with ⟨b,rfl,rfl⟩|⟨g',b,rfl,rfl⟩
    · rw [Zff h h' a b];exact ⟨rfl,rfl,rfl⟩
    · exact (Vs a g').elim
    · exact (Vs b g).elim
    · rw [ZgC h h' a b];exact ⟨rfl,rfl,rfl⟩
  · rcases a with ⟨a,_,_⟩|⟨_,a,_,_⟩
    · exact (Vs a g').elim
    · exact (ZfZ a ok').elim
  · rcases b with ⟨b,_,_⟩|⟨_,b,_,_⟩
    · exact (Vs b g).elim
    · exact (ZfZ b ok).elim
  · have e:v=v':=by
      unfold Uk at r r'
      cases ch with
      | true =>
        rw [if_pos rfl] at r r'
        rcases r.2 with ⟨q,rfl⟩|⟨q,j,hj,rfl⟩ <;> rcases r'.2 with ⟨q',rfl⟩|⟨q',j',hj',rfl⟩
        · rfl
        · tb_start
        · tb_start
        · rw [YX h hj hj']
      | false =>
        rw [if_neg (by decide)] at r r'
        rw [r.2,r'.2]
    exact ⟨by rw [e],ha.trans hb.symm,hp.trans hq.symm⟩
theorem ZbH {TX FN ch mv sn past codes idx act tg rd rd' i1 i2 p1 p2}:@Uy TX FN ch mv sn past codes idx act tg rd rd' i1 i2 p1 p2:=ZN (k:=Ux) rfl Wz (dC |>.sh (gt dC.h [TX]) |>.st (gt dC.t [FN]) |>.sz (gt dC.z [ch,mv,past,p1,p2]) |>.sm (gt dC.m [sn]) |>.sw (gt dC.w [codes]) |>.sa (gt dC.a [idx,i1,i2]) |>.sn (gt dC.n [act]) |>.svd (gt dC.vd [tg]) |>.svb (gt dC.vb [rd,rd']))
theorem YD {TX TX':List Str}{x:Str}{d:W.Dat}(p:TX<+:TX')(a:Zv TX x d):Zv TX' x d:=a.elim fun i q=>⟨i,WI q.1 p,q.2⟩
theorem U7 {TX TX':List Str}{FN FN':List (Int×Int)}{x:Str}{l:List W.Dat}{d:W.Dat}(p:TX<+:TX')(q:FN<+:FN')(a:ZG TX FN x l d):ZG TX' FN' x l d:=by
  obtain ⟨i,f,hi,hf,e⟩:=a
  exact ⟨i,f,WI hi p,WI hf q,e⟩
theorem Vv {TX TX':List Str}{FN FN':List (Int×Int)}{x:Str}{c d:W.Dat}(p:TX<+:TX')(q:FN<+:FN')(a:ZY TX FN x c d):ZY TX' FN' x c d:=a.elim fun e z=>⟨e,YD p z.1,U7 p q z.2⟩
theorem JE {TX TX':List Str}{FN FN':List (Int×Int)}{x:Str}{d:W.Dat}(p:TX<+:TX')(q:FN<+:FN')(a:YB TX FN x d):YB TX' FN' x d:=a.elim fun e z=>⟨e,YD p z.1,U7 p q z.2⟩
noncomputable def V0 {TX TX':List Str}{FN FN':List (Int×Int)}{ch mv:Bool}{sn:Int}{past:Bool}{codes:List Int}{idx:Nat}{act:Str}{tg:Tgt}{rd:W.Dat}{i1:Nat}{p1:Bool}:Prop:=∀ (p:TX<+:TX')(q:FN<+:FN')(a:Yl TX FN ch mv sn past codes idx act tg rd i1 p1),
   Yl TX' FN' ch mv sn past codes idx act tg rd i1 p1
noncomputable def Yp (c:Zf):Prop:=@V0 (c.h 0) (c.h 1) (c.t 0) (c.t 1) (c.z 0) (c.z 1) (c.m 0) (c.z 2) (c.w 0) (c.a 0) (c.n 0) (c.vd 0) (c.vb 0) (c.a 1) (c.z 3)
noncomputable def VZ:Zf:=ZM Zj Yp
theorem Gx:Yp VZ:=by
  delta Yp
  exists Zf.h _ _,TX,TX'
  exists Zf.t _ _,FN,FN'
  exists Zf.z _ _,ch,mv,past,p1
  exists Zf.m _ _,sn
  exists Zf.w _ _,codes
  exists Zf.a _ _,idx,i1
  exists Zf.n _ _,act
  exists Zf.vd _ _,tg
  exists Zf.vb _ _,rd
  intro p q a
  rcases a with ⟨d,rfl,a⟩|⟨g,ok,ha,hp,v,r,rfl⟩
  · refine .inl ⟨d,rfl,?_⟩
    rcases a with ⟨a,e1,e2⟩|⟨g,a,e1,e2⟩
    · refine .inl ⟨?_,e1,e2⟩
      cases tg with
      | v=>cases ch <;> exact a.elim
      | a i x=>cases ch with
        | true=>exact ⟨a.1,Vv p q a.2⟩
        | false=>exact Vv p q a
      | i k=>cases ch with
        | true=>exact Vv p q a
        | false=>exact ⟨a.1,JE p q a.2⟩
    · refine .inr ⟨g,?_,e1,e2⟩
      rcases a with ⟨z1,z2,z3,d1,d2,f,i1,w1,w2,hi,hf,he⟩|⟨z1,z2,z3⟩
      · exact .inl ⟨z1,z2,z3,d1,d2,f,i1,YD p w1,YD p w2,WI hi p,WI hf q,U7 p q he⟩
      · exact .inr ⟨z1,z2,JE p q z3⟩
  · refine .inr ⟨g,ok,ha,hp,v,?_,rfl⟩
    unfold Uk at r ⊢
    cases ch with
    | true =>
      rw [if_pos rfl] at r ⊢
      rcases r.2 with z|⟨z,j,hj,e⟩
      · exact ⟨r.1,.inl z⟩
      · exact ⟨r.1,.inr ⟨z,j,WI hj p,e⟩⟩
    | false=>exact r
theorem ZaZ {TX TX' FN FN' ch mv sn past codes idx act tg rd i1 p1}:@V0 TX TX' FN FN' ch mv sn past codes idx act tg rd i1 p1:=ZN (k:=VZ) rfl Gx (dC |>.sh (gt dC.h [TX,TX']) |>.st (gt dC.t [FN,FN']) |>.sz (gt dC.z [ch,mv,past,p1]) |>.sm (gt dC.m [sn]) |>.sw (gt dC.w [codes]) |>.sa (gt dC.a [idx,i1]) |>.sn (gt dC.n [act]) |>.svd (gt dC.vd [tg]) |>.svb (gt dC.vb [rd]))
section
theorem Zm0:True:=by
  walk_at "RST"
  trivial
theorem GZ {n:Nat}{i:Int}:kqdOk (n+1) (ZX i)=true:=by
  have e:PyData.strOk (Str.ofString "a")=true:=by decide +kernel
  show ([W.Dat.str (Str.ofString "a"),W.Dat.int i].all (kqdOk n))=true
  simp [kqdOk,e]
theorem Zce {n:Nat}{f:Int}{l:List W.Dat}(h:∀ d∈l,kqdOk n d=true):kqdOk (n+2) (YU f l)=true:=by
  have e:PyData.strOk (Str.ofString "s")=true:=by decide +kernel
  have e2:kqdOk (n+1) (W.Dat.tuple l)=true:=by
    show (l.all (kqdOk n))=true
    exact List.all_eq_true.mpr h
  show ([W.Dat.str (Str.ofString "s"),W.Dat.int f,W.Dat.tuple l].all (kqdOk (n+1)))=true
  simp only [List.all_cons,List.all_nil,e2,Bool.and_true]
  simp [kqdOk,e]
theorem Zhp {n:Nat}{f:Int}{l:List W.Dat}(h:∀ d∈l,kqdOk n d=true):kqdOk (n+4) (Zlv f l)=true:=Zce fun d hd=>by
  rcases List.mem_cons.mp hd with rfl|hd
  · exact Zce h
  · rcases List.mem_cons.mp hd with rfl|hd
    · exact GZ
    · cases hd
theorem Zcf {TX:List Str}{FN:List (Int×Int)}{x:Str}{l:List W.Dat}{d:W.Dat}(a:ZG TX FN x l d)(h:∀ d∈l,kqdOk 4 d=true):kqdOk 8 d=true:=by
  obtain ⟨i,f,_,_,rfl⟩:=a
  exact Zhp h
theorem Zau {TX:List Str}{x:Str}{d:W.Dat}(a:Zv TX x d):kqdOk 4 d=true:=by
  obtain ⟨i,_,rfl⟩:=a
  exact GZ
theorem Zcd {TX:List Str}{FN:List (Int×Int)}{x:Str}{c d:W.Dat}(a:ZY TX FN x c d)(h:kqdOk 4 c=true):kqdOk 8 d=true:=by
  obtain ⟨e,we,he⟩:=a
  refine Zcf he fun d hd=>?_
  rcases List.mem_cons.mp hd with rfl|hd
  · exact Zau we
  · rcases List.mem_cons.mp hd with rfl|hd
    · exact h
    · cases hd
theorem Zft {TX:List Str}{FN:List (Int×Int)}{x:Str}{d:W.Dat}(a:YB TX FN x d):kqdOk 8 d=true:=by
  obtain ⟨e,we,he⟩:=a
  refine Zcf he fun d hd=>?_
  rcases List.mem_cons.mp hd with rfl|hd
  · exact Zau we
  · cases hd
theorem Zho {TX:List Str}{FN:List (Int×Int)}{n:Int}{d:W.Dat}(a:Jp TX FN n d):kqdOk 8 d=true:=by
  obtain ⟨d1,d2,f,i1,w1,w2,_,_,he⟩:=a
  refine Zcf he fun d hd=>?_
  rcases List.mem_cons.mp hd with rfl|hd
  · exact Zau w1
  · rcases List.mem_cons.mp hd with rfl|hd
    · exact Zau w2
    · rcases List.mem_cons.mp hd with rfl|hd
      · exact Zce fun d hd=>by
          rcases List.mem_cons.mp hd with rfl|hd
          · exact kqi
          · cases hd
      · cases hd
theorem YK {x:String}{d:W.Dat}(e:PyData.strOk (Str.ofString x)=true)(h:kqdOk 8 d=true):kqdOk 9 (.tuple [.str (.ofString x),d])=true:=by
  show ([W.Dat.str (Str.ofString x),d].all (kqdOk 8))=true
  simp only [List.all_cons,List.all_nil,h,Bool.and_true]
  exact e
theorem Zgr {ch:Bool}{tg:Tgt}{v:Int}:kqdOk 9 (YA ch tg v)=true:=by
  have ey:PyData.strOk (Str.ofString "yes")=true:=by decide +kernel
  have en:PyData.strOk (Str.ofString "no")=true:=by decide +kernel
  have y0:kqdOk 9 (ZbF [])=true:=YK ey rfl
  have n0:kqdOk 9 noD=true:=YK en rfl
  cases tg with
  | v =>
    refine YK ey ?_
    show ([W.Dat.tuple [.str (.ofString (bif ch then "a" else "i")),.int v]].all (kqdOk 7))=true
    cases ch with
    | true=>simp only [List.all_cons,List.all_nil,Bool.and_true];exact GZ
    | false=>simp only [List.all_cons,List.all_nil,Bool.and_true];exact kqi
  | a i x=>by_cases q:(i:Int)=v <;> simp only [YA,q,if_true,if_false] <;> assumption
  | i k=>by_cases q:k=v <;> simp only [YA,q,if_true,if_false] <;> assumption
theorem ZbG {TX:List Str}{FN:List (Int×Int)}{ch mv:Bool}{sn:Int}{past:Bool}{codes:List Int}{idx:Nat}{act:Str}{tg:Tgt}{rd:W.Dat}{i1:Nat}{p1:Bool}(a:Yl TX FN ch mv sn past codes idx act tg rd i1 p1):kqdOk 9 rd=true∧∃ x d,rd = .tuple [.str x,d]:=by
  rcases a with ⟨d,rfl,a⟩|⟨g,ok,ha,hp,v,r,rfl⟩
  · refine ⟨YK (by decide +kernel) ?_,_,_,rfl⟩
    rcases a with ⟨a,_,_⟩|⟨_,a,_,_⟩
    · cases tg with
      | v=>cases ch <;> exact a.elim
      | a i x=>cases ch with
        | true=>exact Zcd a.2 GZ
        | false=>exact Zcd a GZ
      | i k=>cases ch with
        | true=>exact Zcd a kqi
        | false=>exact Zft a.2
    · rcases a with ⟨_,_,_,a⟩|⟨_,_,a⟩
      · exact Zho a
      · exact Zft a
  · refine ⟨Zgr,?_⟩
    cases tg with
    | v=>exact ⟨_,_,rfl⟩
    | a i x=>by_cases q:(i:Int)=v <;> simp only [YA,q,if_true,if_false] <;> exact ⟨_,_,rfl⟩
    | i k=>by_cases q:k=v <;> simp only [YA,q,if_true,if_false] <;> exact ⟨_,_,rfl⟩
noncomputable def Jc {news:List (Addr×Obj)}{t:Nat}{x:Str}{d:W.Dat}:Prop:=∀ (h:W.DatIn news (.ref t) (.tuple [.str x,d])),
   ∃ (tk:Tok) (v:Value) (n:Nat),(t,({cls :=.type "tuple",data :=.seq [Value.str x tk,v].toArray n}:Obj))∈news
noncomputable def Y1 (c:Zf):Prop:=@Jc (c.b 0) (c.a 0) (c.n 0) (c.vb 0)
noncomputable def Jb:Zf:=ZM Zj Y1
theorem W5:Y1 Jb:=by
  delta Y1
  exists Zf.b _ _,news
  exists Zf.a _ _,t
  exists Zf.n _ _,x
  exists Zf.vb _ _,d
  intro h
  cases h with
  | tuple hm ha =>
    cases ha with
    | cons h1 h2 =>
      cases h1
      cases h2 with
      | cons h3 h4 =>
        cases h4
        exact ⟨_,_,_,hm⟩
theorem Wf {news t x d}:@Jc news t x d:=ZN (k:=Jb) rfl W5 (dC |>.sb (gt dC.b [news]) |>.sa (gt dC.a [t]) |>.sn (gt dC.n [x]) |>.svb (gt dC.vb [d]))
open Classical in
theorem Zfb {prog:Program}{w:World}{A:Around}{E:Value→Shared→Prop}{s:Shared}{h₀:Heap}{L:Addr}{news:List (Addr×Obj)}{va vb:Value}{d:W.Dat}{Q:Value→Shared→Prop}(N:News h₀ L s.heap news)(ma:W.DatIn news va d)(mb:W.DatIn news vb d)(k:kqdOk 9 d=true)(hu:A.units+64<cLine)
   (h:Q (.bool true) s):wpAny (model prog w) A (compareOp .Eq va vb) Q E s:=Gp N ma mb k k hu (by rw [decide_eq_true rfl];exact h)
section
variable {w:World}{p:Program}{loose:List Str}{mean:ExcName→Option Value}{mg mb:Str→Option Value}
   {dp un:Nat}{gd:Option (List Code)}{cn:Str}{cs:Scope}{a:Addr}{ccd:Value}{cl:List (Str×Addr)}{outer:List Env}{A₀:Around}{base h₀:Heap}{L:Addr}{m:Str→Option Value}{s:Shared}{Q E:Value→Shared→Prop}
   (B:Below A₀ base outer h₀)(F:Fr h₀ L s.heap m)(X:(K w.params).In h₀)(T:Top p loose mean mg mb h₀)(hk:cs.kind = .function)
include B F X T hk
theorem ZmZ:True:=by
  walk_at "G slim"
  k_with "compareOp Eq ref ref" =>(k_here;k_dflt (refine' Zfb ?N ?a ?b ?k ?u ?_;(case N=>k_asm);(case a=>exact ma1);(case b=>exact ma2);(case k=>exact kk);(case u=>ktr_units)))
  trivial
theorem Zeh {t1 t2:Nat}{x:Str}{d:W.Dat}{news:List (Addr×Obj)}
   (N:News h₀ L s.heap news)(ma1:W.DatIn news (.ref t1) (.tuple [.str x,d]))(ma2:W.DatIn news (.ref t2) (.tuple [.str x,d]))(kk:kqdOk 9 (.tuple [.str x,d])=true)
   (hdp:dp+10<recursionLimit)(hun:un+200<cLine)
   (ret:∀ (h':Heap)(tk':Nat),Fr h₀ L h' m→News h₀ L h' news→Q (.bool true) {s with heap:=h',toks:=tk'}) :
   wpAny (model PR w) (ktrTop dp un gd cn cs L a ccd cl outer) (call (.ref 1135) [.ref t1,.ref t2]) Q E s:=by
  obtain ⟨k1,v1,n1,hm1⟩:=Wf ma1
  obtain ⟨k2,v2,n2,hm2⟩:=Wf ma2
  refine wpAny_call ?_
  k_dflt cell_enter
  k_steps
  exact ret _ _ (by k_asm) (by k_asm)
end
end
section
theorem ZmY:True:=by
  walk_at "RST"
  trivial
theorem Gr {p:Addr×Obj}{l:List (Addr×Obj)}(h:∀ q∈l,q.1≠p.1)(D:Za l):Za (p::l):=List.nodup_cons.mpr ⟨fun z=>by obtain ⟨q,hq,e⟩:=List.mem_map.mp z;exact h q hq e,D⟩
theorem W3 {p:Addr×Obj}{l:List (Addr×Obj)}(D:Za (p::l)):Za l:=(List.nodup_cons.mp D).2
theorem Gq {p:Addr×Obj}{l:List (Addr×Obj)}(D:Za (p::l)):∀ q∈l,q.1≠p.1:=fun q hq e=>(List.nodup_cons.mp D).1 (List.mem_map.mpr ⟨q,hq,e⟩)
noncomputable def Wv (h₀:Heap)(L:Addr)(I:Addr)(oI:Obj)(Jn:(Str→Option Value)→List (Addr×Obj)→Prop)(s₁:Shared)(Q:Flow→Shared→Prop)(f:Flow)(s₂:Shared):Prop :=
  match f with
  | .ret v=>Q (.ret v) s₂
  | .brk=>Q .next s₂
  | _=>∃ h' tk m' nx,s₂={s₁ with heap:=h',toks:=tk}∧Fr h₀ L h' m'∧News h₀ L h' ((I,oI)::nx)∧Za ((I,oI)::nx)∧Jn m' nx
open PyProof.V in
noncomputable def Vd {prog:Program}{w:World}{A:Around}{E:Value→Shared→Prop}{s:Shared}{env:Env}{h₀:Heap}{x:Str}{body:List Stmt}{Q:Flow→Shared→Prop}{r:Addr}{a₀ b₀:Int}{t₀ u₀ v₀:Tok}{n:Nat}{m₀:Str→Option Value}{news:List (Addr×Obj)}:Prop:=∀ (J:Nat→(Str→Option Value)→List (Addr×Obj)→Prop)(hh:A.handled=none)(hr:IsRange s.heap r a₀ b₀ 1 t₀ u₀ v₀)(hsmall:Builtin.Range.small a₀ b₀ 1=true)(hn:Builtin.Range.rangeSize a₀ b₀ 1=(n:Int))(F:Fr h₀ env.locals s.heap m₀)(N:News h₀ env.locals s.heap news)(D:Za news)(hj:J 0 m₀ news)(turn:∀ i (I:Nat)(oI:Obj) v m₁ nx h tk,i<n→J i m₁ nx→Fr h₀ env.locals h (fun y=>if y=x then some v else m₁ y)→News h₀ env.locals h ((I,oI)::nx)→Za ((I,oI)::nx) →
      wpAny (model prog w) A (execs body env) (Wv h₀ env.locals I oI (J (i+1)) {s with heap:=h,toks:=tk} Q) E {s with heap:=h,toks:=tk}) (done:∀ m₁ nx h tk,J n m₁ nx→Fr h₀ env.locals h m₁→News h₀ env.locals h nx→Za nx→Q .next {s with heap:=h,toks:=tk}),
   wpAny (model prog w) A (pyIter (.ref r)) (fun it s₂=>LoopAtV prog w A h₀ env x body Q E it s₂) E s
noncomputable def Yd (c:Zf):Prop:=@Vd (c.d 0) (c.c 0) (c.e 0) (c.g 0) (c.f 0) (c.vf 0) (c.j 0) (c.n 0) (c.ve 0) (c.x 0) (c.a 0) (c.m 0) (c.m 1) (c.o 0) (c.o 1) (c.o 2) (c.a 1) (c.i 0) (c.b 0)
noncomputable def Vc:Zf:=ZM Zj Yd
theorem Gd:Yd Vc:=by
  delta Yd
  exists Zf.d _ _,prog
  exists Zf.c _ _,w
  exists Zf.e _ _,A
  exists Zf.g _ _,E
  exists Zf.f _ _,s
  exists Zf.vf _ _,env
  exists Zf.j _ _,h₀
  exists Zf.n _ _,x
  exists Zf.ve _ _,body
  exists Zf.x _ _,Q
  exists Zf.a _ _,r,n
  exists Zf.m _ _,a₀,b₀
  exists Zf.o _ _,t₀,u₀,v₀
  exists Zf.i _ _,m₀
  exists Zf.b _ _,news
  intro J hh hr hsmall hn F N D hj turn done
  refine wpAny_pyIter_range hr hsmall ?_
  have W:Walks prog w A s.heap.objs.size [s.heap.objs.size] [s.heap.objs.size] n (fun i v=>i<n∧∃ t,v = .int (a₀+i * 1) t)
      (fun i h=>IsRangeIter h s.heap.objs.size (a₀+(i:Nat) * 1) ((n:Int) - (i:Nat)) 1):=(Walks.range hh _ a₀ 1 n).bound
  let J':Nat→(Str→Option Value)→List (Addr×Obj)→Prop:=fun i m₁ nx=>Za nx∧J i m₁ nx
  refine ⟨_,_,_,n,_,_,m₀,news,J',rfl,W,?_,?_,?_,(by show IsRangeIter _ _ _ _ _;rw [hn];simpa using Heap.get?_push_size _ rfl),F.push _,(fun p hp=>⟨Heap.get?_push_of_some _ (N p hp).1,(N p hp).2⟩),⟨D,hj⟩,?_,?_⟩
  · intro hm
    exact absurd F.ns.lt ((List.mem_singleton.mp hm) ▸ Nat.lt_irrefl _)
  · intro b hb
    rw [List.mem_singleton.mp hb]
    exact next_is_new F
  · intro p hp hI
    exact absurd (Heap.lt_size (N p hp).1) ((List.mem_singleton.mp hI) ▸ Nat.lt_irrefl _)
  · rintro i v m₁ nx s₁ own ⟨hh',tk',rfl⟩ hin hP ⟨hd,hJ⟩ hoff hown hob hfull hst F₁ N₁
    have hI:∃ oI,hh'.get? s.heap.objs.size=some oI:=⟨_,hst⟩
    obtain ⟨oI,ho⟩:=hI
    have hio:(s.heap.objs.size,oI)∈own:=hfull _ (List.mem_singleton.mpr rfl) (next_is_new F) _ ho
    have hall:=own_one hown (fun b hb =>.inl (List.mem_singleton.mp hb)) ho N₁
    have hDI:Za ((s.heap.objs.size,oI)::nx):=Gr (fun q hq e=>hoff q hq (List.mem_singleton.mpr e)) hd
    refine wpAny_mono (turn i s.heap.objs.size oI v m₁ nx hh' tk' hin hJ F₁ (news_one hio N₁) hDI) (fun f s₂ p=>?_) fun _ _ e=>e
    have fin:(∃ h' tk m' nx',s₂={s with heap:=h',toks:=tk}∧Fr h₀ env.locals h' m'∧News h₀ env.locals h' ((s.heap.objs.size,oI)::nx')∧Za ((s.heap.objs.size,oI)::nx')∧J (i+1) m' nx')→LoopStepU h₀ env.locals [s.heap.objs.size] own (J' (i+1)) {s with heap:=hh',toks:=tk'} .next s₂:=by
      rintro ⟨h',tk,m',nx',e,F',N',D',hj'⟩
      refine ⟨rfl,h',tk,m',nx',e,F',fun p hp=>?_,fun p hp hq=>?_,W3 D',hj'⟩
      · rcases List.mem_append.mp hp with q|q
        · rw [hall p q];exact N' _ (.head _)
        · exact N' _ (.tail _ q)
      · exact Gq D' p hp (List.mem_singleton.mp hq)
    cases f with
    | ret v=>exact .ret p
    | brk=>exact .brk p
    | next=>exact .next (fin p)
    | cont=>exact .cont (fin p)
  · rintro h' tk m' nx F' N' _ ⟨hd,hJ⟩
    exact done m' nx h' tk hJ F' N' hd
theorem UI {prog w A E s env h₀ x body Q r a₀ b₀ t₀ u₀ v₀ n m₀ news}:@Vd prog w A E s env h₀ x body Q r a₀ b₀ t₀ u₀ v₀ n m₀ news:=ZN (k:=Vc) rfl Gd (dC |>.sd (gt dC.d [prog]) |>.sc (gt dC.c [w]) |>.se (gt dC.e [A]) |>.sg (gt dC.g [E]) |>.sf (gt dC.f [s]) |>.svf (gt dC.vf [env]) |>.sj (gt dC.j [h₀]) |>.sn (gt dC.n [x]) |>.sve (gt dC.ve [body]) |>.sx (gt dC.x [Q]) |>.sa (gt dC.a [r,n]) |>.sm (gt dC.m [a₀,b₀]) |>.so (gt dC.o [t₀,u₀,v₀]) |>.si (gt dC.i [m₀]) |>.sb (gt dC.b [news]))
end
section
theorem ZmX:True:=by
  walk_at "RST"
  trivial
open PyProof.V in
noncomputable def Y7 {prog:Program}{w:World}{A:Around}{E:Value→Shared→Prop}{s:Shared}{env:Env}{h₀:Heap}{x:Str}{body:List Stmt}{Q:Flow→Shared→Prop}{ax:Addr}{lo:Obj}{vs:List Value}{n:Nat}{m₀:Str→Option Value}{news:List (Addr×Obj)}:Prop:=∀ (J:Nat→(Str→Option Value)→List (Addr×Obj)→Prop)(hh:A.handled=none)(F:Fr h₀ env.locals s.heap m₀)(N:News h₀ env.locals s.heap news)(D:Za news)(hm:(ax,lo)∈news)(hc:lo.cls = .type "tuple")(hd:lo.data = .seq vs.toArray n)(hj:J 0 m₀ news)(turn:∀ i (I:Nat)(oI:Obj) v m₁ nx h tk,vs[i]? = some v→J i m₁ nx→Fr h₀ env.locals h (fun y=>if y=x then some v else m₁ y)→News h₀ env.locals h ((I,oI)::nx)→Za ((I,oI)::nx) →
      wpAny (model prog w) A (execs body env) (Wv h₀ env.locals I oI (fun m' nx=>(ax,lo)∈nx∧J (i+1) m' nx) {s with heap:=h,toks:=tk} Q) E {s with heap:=h,toks:=tk}) (done:∀ m₁ nx h tk,J vs.length m₁ nx→Fr h₀ env.locals h m₁→News h₀ env.locals h nx→Za nx→Q .next {s with heap:=h,toks:=tk}),
   wpAny (model prog w) A (pyIter (.ref ax)) (fun it s₂=>LoopAtV prog w A h₀ env x body Q E it s₂) E s
noncomputable def Z9 (c:Zf):Prop:=@Y7 (c.d 0) (c.c 0) (c.e 0) (c.g 0) (c.f 0) (c.vf 0) (c.j 0) (c.n 0) (c.ve 0) (c.x 0) (c.a 0) (c.v 0) (c.u 0) (c.a 1) (c.i 0) (c.b 0)
noncomputable def Y6:Zf:=ZM Zj Z9
theorem J8:Z9 Y6:=by
  delta Z9
  exists Zf.d _ _,prog
  exists Zf.c _ _,w
  exists Zf.e _ _,A
  exists Zf.g _ _,E
  exists Zf.f _ _,s
  exists Zf.vf _ _,env
  exists Zf.j _ _,h₀
  exists Zf.n _ _,x
  exists Zf.ve _ _,body
  exists Zf.x _ _,Q
  exists Zf.a _ _,ax,n
  exists Zf.v _ _,lo
  exists Zf.u _ _,vs
  exists Zf.i _ _,m₀
  exists Zf.b _ _,news
  intro J hh F N D hm hc hd hj turn done
  have hax:=N _ hm
  have hl:s.heap.IsTuple ax vs.toArray:=⟨lo,hax.1,hc,n,hd⟩
  have hlt:ax<s.heap.objs.size:=Heap.lt_size hax.1
  have hne:ax≠s.heap.objs.size:=Nat.ne_of_lt hlt
  refine wpAny_pyIter_tuple hl ?_
  have W:=Walks.tuple (prog:=prog) (w:=w) hh s.heap.objs.size ax hne vs.toArray
  rw [List.size_toArray] at W
  let J':Nat→(Str→Option Value)→List (Addr×Obj)→Prop:=fun i m₁ nx=>Za nx∧(ax,lo)∈nx∧J i m₁ nx
  refine ⟨_,_,_,vs.length,_,_,m₀,news,J',rfl,W,?_,?_,?_,⟨⟨_,Heap.get?_push_size _ rfl,rfl,rfl⟩,hl.push _⟩,F.push _,(fun p hp=>⟨Heap.get?_push_of_some _ (N p hp).1,(N p hp).2⟩),⟨D,hm,hj⟩,?_,?_⟩
  · intro hq
    rcases List.mem_cons.mp hq with e|e
    · exact absurd F.ns.lt (e ▸ Nat.lt_irrefl _)
    · exact hax.2.1 (List.mem_singleton.mp e).symm
  · intro b hb
    rw [List.mem_singleton.mp hb]
    exact next_is_new F
  · intro p hp hI
    exact absurd (Heap.lt_size (N p hp).1) ((List.mem_singleton.mp hI) ▸ Nat.lt_irrefl _)
  · rintro i v m₁ nx s₁ own ⟨hh',tk',rfl⟩ hin hP ⟨hd',hmx,hJ⟩ hoff hown hob hfull hst F₁ N₁
    obtain ⟨oI,ho,_⟩:=id hst.1
    have hio:(s.heap.objs.size,oI)∈own:=hfull _ (List.mem_cons_self ..) (next_is_new F) _ ho
    have hall:∀ p∈own,p=(s.heap.objs.size,oI)∨p=(ax,lo):=by
      intro p hp
      have h4:=hob p hp
      rcases List.mem_cons.mp (hown p hp) with e|e
      · refine .inl (Prod.ext e ?_)
        rw [e,ho] at h4
        exact (Option.some.inj h4).symm
      · have e:=List.mem_singleton.mp e
        refine .inr (Prod.ext e ?_)
        rw [e,(N₁ _ (List.mem_append_right _ hmx)).1] at h4
        exact (Option.some.inj h4).symm
    have hDI:Za ((s.heap.objs.size,oI)::nx):=Gr (fun q hq e=>hoff q hq (List.mem_singleton.mpr e)) hd'
    have hv:vs[i]? = some v:=by simpa using hP
    refine wpAny_mono (turn i s.heap.objs.size oI v m₁ nx hh' tk' hv hJ F₁ (news_one hio N₁) hDI) (fun f s₂ p=>?_) fun _ _ e=>e
    have fin:(∃ h' tk m' nx',s₂={s with heap:=h',toks:=tk}∧Fr h₀ env.locals h' m'∧News h₀ env.locals h' ((s.heap.objs.size,oI)::nx')∧Za ((s.heap.objs.size,oI)::nx')∧((ax,lo)∈nx'∧J (i+1) m' nx'))→LoopStepU h₀ env.locals [s.heap.objs.size] own (J' (i+1)) {s with heap:=hh',toks:=tk'} .next s₂:=by
      rintro ⟨h',tk,m',nx',e,F',N',D',hm',hj'⟩
      refine ⟨rfl,h',tk,m',nx',e,F',fun p hp=>?_,fun p hp hq=>?_,W3 D',hm',hj'⟩
      · rcases List.mem_append.mp hp with q|q
        · rcases hall p q with e|e
          · rw [e];exact N' _ (.head _)
          · rw [e];exact N' _ (.tail _ hm')
        · exact N' _ (.tail _ q)
      · exact Gq D' p hp (List.mem_singleton.mp hq)
    cases f with
    | ret v=>exact .ret p
    | brk=>exact .brk p
    | next=>exact .next (fin p)
    | cont=>exact .cont (fin p)
  · rintro h' tk m' nx F' N' _ ⟨hd',_,hJ⟩
    exact done m' nx h' tk hJ F' N' hd'
theorem Uw {prog w A E s env h₀ x body Q ax lo vs n m₀ news}:@Y7 prog w A E s env h₀ x body Q ax lo vs n m₀ news:=ZN (k:=Y6) rfl J8 (dC |>.sd (gt dC.d [prog]) |>.sc (gt dC.c [w]) |>.se (gt dC.e [A]) |>.sg (gt dC.g [E]) |>.sf (gt dC.f [s]) |>.svf (gt dC.vf [env]) |>.sj (gt dC.j [h₀]) |>.sn (gt dC.n [x]) |>.sve (gt dC.ve [body]) |>.sx (gt dC.x [Q]) |>.sa (gt dC.a [ax,n]) |>.sv (gt dC.v [lo]) |>.su (gt dC.u [vs]) |>.si (gt dC.i [m₀]) |>.sb (gt dC.b [news]))
noncomputable def ZJ:List Str:=["[]",".","{}","-","+","*","/",",","|",";","->","\\+",":-","?-","-->","!","true","fail","false","call","=","^","error","","end_of_file","system","$VAR","catch","throw"].map Str.ofString
noncomputable def Zfr:List (Str×Int):=[(".",2),(",",2),(";",2),("->",2),("\\+",1),(":-",2),(":-",1),("?-",1),("-->",2),("{}",1),("=",2),("^",2),("-",1),("-",2),("+",2),("/",2),("error",2),("$VAR",1),("catch",3),("throw",1),("!",0),("true",0),("fail",0),("false",0),("call",1),("call",2),("call",3),("call",4),("call",5),("call",6),("call",7),("call",8)].map fun p=>(Str.ofString p.1,p.2)
inductive StrsAre:List Value→List Str→Prop
  | nil:StrsAre [] []
  | cons {x:Str} {t:Tok} {vs:List Value} {xs:List Str}:StrsAre vs xs→StrsAre (.str x t::vs) (x::xs)
theorem StrsAre.at {vs:List Value}{xs:List Str}(h:StrsAre vs xs):∀ {i:Nat}{v:Value},vs[i]? = some v→∃ x t,xs[i]? = some x∧v = .str x t:=by
  induction h with
  | nil=>intro i v e;simp at e
  | @cons x t vs xs h ih =>
    intro i v e
    cases i with
    | zero=>exact ⟨x,t,rfl,by simpa using e.symm⟩
    | succ i=>simpa using ih (by simpa using e)
theorem StrsAre.len {vs:List Value}{xs:List Str}(h:StrsAre vs xs):vs.length=xs.length:=by
  induction h with
  | nil=>rfl
  | cons h ih=>simp [ih]
section
variable {w:World}{p:Program}{loose:List Str}{mean:ExcName→Option Value}{mg mb:Str→Option Value}
   {dp un:Nat}{gd:Option (List Code)}{cn:Str}{cs:Scope}{a:Addr}{ccd:Value}{cl:List (Str×Addr)}{outer:List Env}{A₀:Around}{base h₀:Heap}{L:Addr}{m:Str→Option Value}{s:Shared}{Q E:Value→Shared→Prop}
   (B:Below A₀ base outer h₀)(F:Fr h₀ L s.heap m)(X:(K w.params).In h₀)(T:Top p loose mean mg mb h₀)(hk:cs.kind = .function)
include B F X T hk
omit B F X T hk
noncomputable def JV {news:List (Addr×Obj)}:Prop:=∀ (B:Below A₀ base outer h₀)(F:Fr h₀ L s.heap m)(X:(K w.params).In h₀)(T:Top p loose mean mg mb h₀)(hk:cs.kind = .function)(N:News h₀ L s.heap news)(D:Za news)(hdp:dp+5<recursionLimit)(hun:un+100<cLine)(ret:∀ (t:Nat)(vs:List Value)(h':Heap)(tk':Nat),StrsAre vs ZJ→Fr h₀ L h' m→News h₀ L h' ((t,{cls :=.type "tuple",data :=.seq vs.toArray})::news)→Za ((t,{cls :=.type "tuple",data :=.seq vs.toArray})::news)→Q (.ref t) {s with heap:=h',toks:=tk'}),
   wpAny (model PR w) (ktrTop dp un gd cn cs L a ccd cl outer) (call (.ref 60) []) Q E s
noncomputable def VQ (c:Zf):Prop:=@cF _ (@JV) c (c.b 0)
noncomputable def JU:Zf:=ZM Zj VQ
theorem Zby:VQ JU:=by
  delta VQ cF
  k_extra "gS"
  exists Zf.b _ _,news
  intro B F X T hk N D hdp hun ret
  refine wpAny_call ?_
  k_dflt cell_enter
  k_steps
  refine ret _ _ _ _ ?_ (by k_asm) (by k_asm) (by ktr_unf)
  unfold ZJ
  exact (by repeat' first|exact StrsAre.nil|refine StrsAre.cons ?_)
theorem Zfg {news}:@JV w p loose mean mg mb dp un gd cn cs a ccd cl outer A₀ base h₀ L m s Q E news:=ZN (k:=JU) rfl Zby (cS w p loose mean mg mb m gd cn cs ccd cl outer A₀ base h₀ s Q E |>.sa (gt dC.a [dp,un,a,L]) |>.sb (gt dC.b [news]))
include B F X T hk
end
end
theorem ZmW:True:=by
  walk_at "RST"
  trivial
inductive RowsAre (R:List (Addr×Obj)):List Value→List (Str×Int)→Prop
  | nil:RowsAre R [] []
  | cons {r:Nat} {x:Str} {k:Int} {t u:Tok} {vs:List Value} {xs:List (Str×Int)}:(r,({cls :=.type "tuple",data :=.seq [Value.str x t,Value.int k u].toArray}:Obj))∈R→RowsAre R vs xs→RowsAre R (.ref r::vs) ((x,k)::xs)
theorem RowsAre.at {R:List (Addr×Obj)}{vs:List Value}{xs:List (Str×Int)}(h:RowsAre R vs xs):∀ {i:Nat}{v:Value},vs[i]? = some v→∃ (r:Nat)(x:Str)(k:Int)(t u:Tok),xs[i]? = some (x,k)∧v = .ref r∧(r,({cls :=.type "tuple",data :=.seq [Value.str x t,Value.int k u].toArray}:Obj))∈R:=by
  induction h with
  | nil=>intro i v e;simp at e
  | @cons r x k t u vs xs hm h ih =>
    intro i v e
    cases i with
    | zero=>exact ⟨r,x,k,t,u,rfl,by simpa using e.symm,hm⟩
    | succ i=>simpa using ih (by simpa using e)
theorem RowsAre.len {R:List (Addr×Obj)}{vs:List Value}{xs:List (Str×Int)}(h:RowsAre R vs xs):vs.length=xs.length:=by
  induction h with
  | nil=>rfl
  | cons _ h ih=>simp [ih]
theorem RowsAre.mono {R R':List (Addr×Obj)}(hs:∀ q∈R,q∈R'){vs:List Value}{xs:List (Str×Int)}(h:RowsAre R vs xs):RowsAre R' vs xs:=by
  induction h with
  | nil=>exact .nil
  | cons hm h ih=>exact .cons (hs _ hm) ih
inductive RowExprs:List PySem.Expr→List (Str×Int)→Prop
  | nil:RowExprs [] []
  | cons {x:Str} {k:Int} {n1 n2 n3:Nat} {p1 p2 p3:Pos} {es:List PySem.Expr} {xs:List (Str×Int)}:RowExprs es xs→RowExprs (PySem.Expr.Tuple [PySem.Expr.Constant (.str x) n1 p1,PySem.Expr.Constant (.int k) n2 p2] n3 p3::es) ((x,k)::xs)
theorem Zbd {prog:Program}{w:World}{A:Around}{E:Value→Shared→Prop}{env:Env}{h₀:Heap}{L:Addr}{m:Str→Option Value}{es:List PySem.Expr}{xs:List (Str×Int)}(RE:RowExprs es xs):∀ {news:List (Addr×Obj)}{s:Shared}{Q:List Value→Shared→Prop}{pos:Pos},Fr h₀ L s.heap m→News h₀ L s.heap news→Za news →
    (∀ (vs:List Value) (R:List (Addr×Obj)) (h':Heap) (tk':Nat),RowsAre R vs xs→Fr h₀ L h' m→News h₀ L h' (R++news)→Za (R++news)→Q vs {s with heap:=h',toks:=tk'}) →
    wpAny (model prog w) A (spliced (backTo pos (starEach es env))) Q E s:=by
  induction RE with
  | nil=>intro news s Q pos F N D h;exact args_nil (h [] [] s.heap s.toks .nil F N D)
  | @cons x k n1 n2 n3 p1 p2 p3 es xs RE ih =>
    intro news s Q pos F N D h
    refine args_cons (Tuple_ (args_cons (Constant_str (args_cons (wpAny_Constant_int (args_nil ?_))))))
    refine YL F N D (fun d h' F' N' D'=>?_) (Nat.le_of_ble_eq_true rfl)
    refine ih F' N' D' fun vs R h'' tk'' ra F'' N'' D''=>?_
    have e:R++(d,({cls :=.type "tuple",data :=.seq [Value.str x s.toks,Value.int k (s.toks+1)].toArray}:Obj))::news=(R++[(d,({cls :=.type "tuple",data :=.seq [Value.str x s.toks,Value.int k (s.toks+1)].toArray}:Obj))])++news:=by simp
    rw [e] at N'' D''
    exact h _ _ h'' tk'' (.cons (List.mem_append_right _ (.head _)) (ra.mono fun q hq=>List.mem_append_left _ hq)) F'' N'' D''
section
variable {w:World}{p:Program}{loose:List Str}{mean:ExcName→Option Value}{mg mb:Str→Option Value}
   {dp un:Nat}{gd:Option (List Code)}{cn:Str}{cs:Scope}{a:Addr}{ccd:Value}{cl:List (Str×Addr)}{outer:List Env}{A₀:Around}{base h₀:Heap}{L:Addr}{m:Str→Option Value}{s:Shared}{Q E:Value→Shared→Prop}
   (B:Below A₀ base outer h₀)(F:Fr h₀ L s.heap m)(X:(K w.params).In h₀)(T:Top p loose mean mg mb h₀)(hk:cs.kind = .function)
include B F X T hk
theorem ZmV:True:=by
  k_with "spliced" =>(k_here;(with_reducible show wpAny _ _ (spliced (backTo _ (starEach (PySem.Expr.Tuple _ _ _::PySem.Expr.Tuple _ _ _::_) _))) _ _ _);k_dflt (refine' Zbd (xs:=Zfr) ?R ?F ?N ?D ?_;(case F=>k_asm);(case N=>k_asm);(case D=>k_asm);(case R=>(repeat' first|exact RowExprs.nil|refine RowExprs.cons ?_)));intro vs' R' h' tk' hra' F' N' D')
  k_with "newTuple" =>(k_here;k_dflt (refine' YL ?F ?N ?D ?_ ?z;(case F=>k_asm);(case N=>k_asm);(case D=>k_asm);(case z=>exact Nat.le_trans (Nat.le_of_eq (RowsAre.len hra')) (Nat.le_of_ble_eq_true rfl)));intro t' h' F' N' D')
  trivial
theorem WW {news:List (Addr×Obj)}(N:News h₀ L s.heap news)(D:Za news)(hdp:dp+5<recursionLimit)(hun:un+100<cLine)
   (ret:∀ (t:Nat)(vs:List Value)(R:List (Addr×Obj))(h':Heap)(tk':Nat),RowsAre R vs Zfr→Fr h₀ L h' m→News h₀ L h' ((t,{cls :=.type "tuple",data :=.seq vs.toArray})::(R++news))→Za ((t,{cls :=.type "tuple",data :=.seq vs.toArray})::(R++news))→Q (.ref t) {s with heap:=h',toks:=tk'}) :
   wpAny (model PR w) (ktrTop dp un gd cn cs L a ccd cl outer) (call (.ref 67) []) Q E s:=by
  refine wpAny_call ?_
  k_dflt cell_enter
  k_steps
  exact ret _ _ _ _ _ hra' (by k_asm) (by k_asm) (by k_asm)
end
theorem ZmU:True:=by
  walk_at "RST"
  trivial
theorem Zcv {l l':List Str}{x:Str}{j:Nat}(p:l<+:l')(hl:l'.length≤l.length+1)(hx:l'[j]? = some x)(hn:x∉l):l'=l++[x]:=by
  obtain ⟨r,rfl⟩:=p
  have hr:r.length≤1:=by simpa using hl
  match r,hr with
  | [],_=>rw [List.append_nil] at hx;exact absurd (List.mem_of_getElem? hx) hn
  | [y],_ =>
    have:=List.mem_of_getElem? hx
    rcases List.mem_append.mp this with q|q
    · exact absurd q hn
    · rw [List.mem_singleton.mp q]
theorem Wr:ZJ.Nodup:=by decide +kernel
theorem Jt {i:Nat}{x:Str}(h:ZJ[i]? = some x):x∉ZJ.take i∧ZJ.take (i+1)=ZJ.take i++[x]:=by
  refine ⟨fun hq=>?_,by rw [List.take_add_one,h];rfl⟩
  obtain ⟨j,hj,e⟩:=List.getElem_of_mem hq
  have hj':j<i:=by rw [List.length_take] at hj;tb_start
  have e2:ZJ[j]? = some x:=by
    rw [← e,List.getElem_take]
    exact List.getElem?_eq_getElem _
  exact absurd (YX Wr e2 h) (Nat.ne_of_lt hj')
theorem ZbT {w:World}{tl an fl fn e1 e2:Nat}{oan ofn:Obj}(h1:oan.IsDictOf (strKind PR w) [])(l1:(an==sysModules)=false)(h2:ofn.IsDictOf (intKind PR w) [])(l2:(fn==sysModules)=false) :
    Zh w tl an fl fn [] [] [(an,oan),(tl,W.listOf #[] e1),(fl,W.listOf #[] e2),(fn,ofn)]:=by
  obtain ⟨es,ep,a1,a2,_,hp,_⟩:=h2
  have he:es.toList=[]:=List.length_eq_zero_iff.mp hp.length
  exact ⟨#[],#[],e1,e2,oan,ofn,[],[],[],rfl,⟨h1,.nil,l1⟩,List.nodup_nil,rfl,fun i x q=>by simp at q,⟨⟨es,ep,a1,a2,he,List.nodup_nil⟩,fun x hx=>absurd hx List.not_mem_nil,.nil,l2⟩,rfl,List.nodup_nil⟩
theorem ZmT:True:=by
  walk_at "G loop"
  trivial
section
variable {w:World}{p:Program}{loose:List Str}{mean:ExcName→Option Value}{mg mb:Str→Option Value}
   {dp un:Nat}{gd:Option (List Code)}{outer:List Env}{A₀:Around}{base h₀:Heap}{L:Addr}{m:Str→Option Value}{s:Shared}{Qk:Flow→Shared→Prop}{E:Value→Shared→Prop}
   (B:Below A₀ base outer h₀)(F:Fr h₀ L s.heap m)(X:(K w.params).In h₀)(T:Top p loose mean mg mb h₀)
include B F X T
theorem ZmS:True:=by
  walk_at "G slim"
  k_with "pyIter ref" =>refine UD ?_
  k_with "exec For Name Call cons nil" =>(k_here;(rename Fr _ _ _ _=>lF');(with_unfolding_all refine' For_invVF lF' ?k1 ?k2 ?_ ?k3 ?k4;(case k1=>exact rfl);(case k2=>exact rfl);(case k3=>intro _;rfl);(case k4=>first|assumption|passes_own)))
  k_with "eval Name" =>(k_here;k_dflt (refine' nameX_L ?F ?hv ?_ ?hk ?hx ?hd;(case hk=>exact rfl);(case hx=>exact rfl);(case hd=>decide);(case F=>k_asm);(case hv=>first|exact hl1|exact hl2|exact hl3)))
  k_with "call ref" =>(k_here;(with_reducible show wpAny _ _ (call (Value.ref 88) _) _ _ _);k_dflt (refine' ZW (B:=?zB) (F:=?zF) (X:=?zX) (T:=?zT) (hk:=?zhk) (N:=?zN) (hdp:=?zhdp) (hun:=?zhun) (hm1:=?zhm1) (hm2:=?zhm2) (hS:=?zhS) (P:=?zP) (D:=?zD) (hb:=?zhb) (ret:=?_);k_extra "z6";(case zhS=>first|with_reducible assumption|k_asm);(case zP=>ktr_rel);(case zhm1=>k_mem);(case zhm2=>k_mem);(case zhb=>tb_start);(case zhdp=>ktr_room);(case zhun=>ktr_units);(case zD=>ktr_unf));intro i' t' TX' S' h' tk' hi' pre' len' hS' F' N' D';(try dsimp only))
  k_with "call ref" =>(k_here;(with_reducible show wpAny _ _ (call (Value.ref 109) _) _ _ _);k_dflt (refine' ZQ (B:=?zB) (F:=?zF) (X:=?zX) (T:=?zT) (hk:=?zhk) (N:=?zN) (hdp:=?zhdp) (hun:=?zhun) (hm1:=?zhm1) (hm2:=?zhm2) (hS:=?zhS) (P:=?zP) (D:=?zD) (hb:=?zhb) (hb':=?zhb') (ret:=?_);k_extra "z6";(case zhS=>first|with_reducible assumption|k_asm);(case zP=>ktr_rel);(case zhm1=>k_mem);(case zhm2=>k_mem);(case zhb=>tb_start);(case zhb'=>tb_start);(case zhdp=>ktr_room);(case zhun=>ktr_units);(case zD=>ktr_unf));intro i' t' ia' TX' FN' S' h' tk' hia' hi' pre' len' pref' lenf' hS' F' N' D';(try dsimp only))
  k_with "call ref" =>(k_here;(with_reducible show wpAny _ _ (call (Value.ref 60) _) _ _ _);k_dflt (refine' Zfg (B:=?zB) (F:=?zF) (X:=?zX) (T:=?zT) (hk:=?zhk) (N:=?zN) (hdp:=?zhdp) (hun:=?zhun) (D:=?zD) (ret:=?_);k_extra "z6";(case zhdp=>ktr_room);(case zhun=>ktr_units);(case zD=>ktr_unf));intro t' vs' h' tk' hvs' F' N' D';(try dsimp only))
  k_with "call ref" =>(k_here;(with_reducible show wpAny _ _ (call (Value.ref 67) _) _ _ _);k_dflt (refine' WW (B:=?zB) (F:=?zF) (X:=?zX) (T:=?zT) (hk:=?zhk) (N:=?zN) (hdp:=?zhdp) (hun:=?zhun) (D:=?zD) (ret:=?_);k_extra "z6";(case zhdp=>ktr_room);(case zhun=>ktr_units);(case zD=>ktr_unf));intro t' vs' R' h' tk' hvs' F' N' D';(try dsimp only))
  trivial
omit B F X T
noncomputable def V6 {sym sd tl an fl fn n:Nat}{jy:Hs}{S rest:List (Addr×Obj)}:Prop:=∀ (B:Below A₀ base outer h₀)(F:Fr h₀ L s.heap m)(X:(K w.params).In h₀)(T:Top p loose mean mg mb h₀)(N:News h₀ L s.heap (S++rest))(hS:Zh w tl an fl fn [] [] S)(D:Za (S++rest))(hm1:(sym,instObj 154 sd)∈rest)(hm2:(sd,Zq jy tl an fl fn n)∈rest)(hl1:m (Str.ofString "self")=some (.ref sym))(hE:PassesOwn (model PR w) (ktrTop dp un gd (Str.ofString "Symbols.__init__") Z3 L 81 (aR 80) [] outer) (envOf (Str.ofString "Symbols.__init__") Z3 L 81 (aR 80)) E)(hdp:dp+20<recursionLimit)(hun:un+200<cLine)(ret:∀ (m':Str→Option Value)(TX:List Str)(FN:List (Int×Int))(S':List (Addr×Obj))(h':Heap)(tk':Nat),Zh w tl an fl fn TX FN S'→ZJ<+:TX→TX.length≤100→FN.length≤100→Fr h₀ L h' m'→News h₀ L h' (S'++rest)→Za (S'++rest)→Qk .next {s with heap:=h',toks:=tk'}),
   wpAny (model PR w) (ktrTop dp un gd (Str.ofString "Symbols.__init__") Z3 L 81 (aR 80) [] outer) (execs (List.drop 4 Gn) (envOf (Str.ofString "Symbols.__init__") Z3 L 81 (aR 80))) Qk E s
noncomputable def Yq (c:Zf):Prop:=@V6 (c.c 0) (c.d 0) (c.h 0) (c.k 0) (c.i 0) (c.i 1) (c.a 0) (c.a 1) (c.l 0) (c.q 0) (c.e 0) (c.j 0) (c.j 1) (c.a 2) (c.i 2) (c.f 0) (c.x 0) (c.g 0) (c.a 3) (c.a 4) (c.a 5) (c.a 6) (c.a 7) (c.a 8) (c.a 9) (c.vj 0) (c.b 0) (c.b 1)
noncomputable def V5:Zf:=ZM Zj Yq
theorem GD:Yq V5:=by
  delta Yq
  exists Zf.c _ _,w
  exists Zf.d _ _,p
  exists Zf.h _ _,loose
  exists Zf.k _ _,mean
  exists Zf.i _ _,mg,mb,m
  exists Zf.a _ _,dp,un,L,sym,sd,tl,an,fl,fn,n
  exists Zf.l _ _,gd
  exists Zf.q _ _,outer
  exists Zf.e _ _,A₀
  exists Zf.j _ _,base,h₀
  exists Zf.f _ _,s
  exists Zf.x _ _,Qk
  exists Zf.g _ _,E
  exists Zf.vj _ _,jy
  exists Zf.b _ _,S,rest
  intro B F X T N hS D hm1 hm2 hl1 hE hdp hun ret
  delta Zq at *
  k_steps
  refine Uw (fun i m' nx=>m' (Str.ofString "self")=some (.ref sym)∧∃ S',nx=(t',({cls :=.type "tuple",data :=.seq vs'.toArray}:Obj))::(S'++rest)∧Zh w tl an fl fn (ZJ.take i) [] S') rfl F' N' D' (.head _) rfl rfl ⟨hl1,S,rfl,hS⟩ ?_ ?_
  · rintro i I oI v m₁ nx h tk hv ⟨hl2,S',rfl,hS'⟩ F1 N1 D1
    obtain ⟨x,u,hx,rfl⟩:=hvs'.at hv
    have hb:(ZJ.take i).length<50000:=by rw [List.length_take];have:ZJ.length=29:=rfl;tb_start
    clear F' N' D' N D hv hS
    k_steps
    rename News _ _ _ _=>nN
    have nD:=Zd nN (by ktr_unf)
    have e:=Zcv pre' len' hi' (Jt hx).1
    rw [← (Jt hx).2] at e
    subst e
    exact ⟨_,_,_,_,rfl,F',Zc nN (by ktr_rel),Zb nD (by ktr_rel),.head _,hl2,_,rfl,hS'⟩
  · rintro m₁ nx h tk ⟨hl2,S',rfl,hS'⟩ F1 N1 D1
    have ea:ZJ.take vs'.length=ZJ:=by rw [hvs'.len,List.take_length]
    rw [ea] at hS'
    clear F' N' D' N D hS
    dsimp only
    k_steps
    refine Uw (fun i m' nx=>m' (Str.ofString "self")=some (.ref sym)∧∃ TX FN S'',nx=(t',({cls :=.type "tuple",data :=.seq vs'.toArray}:Obj))::(R'++(S''++rest))∧Zh w tl an fl fn TX FN S''∧ZJ<+:TX∧TX.length≤29+i∧FN.length≤i) rfl F' (Zc N' (by ktr_rel)) (Zb D' (by ktr_rel)) (.head _) rfl rfl ⟨hl2,_,_,S',rfl,hS',List.prefix_refl _,Nat.le_refl _,Nat.le_refl _⟩ ?_ ?_
    · rintro i I oI v m₂ nx h tk hv ⟨hl3,TX,FN,S₃,rfl,hS₃,pA,lA,lB⟩ F2 N2 D2
      obtain ⟨r,x,k,u1,u2,hx,rfl,hmr⟩:=hvs'.at hv
      have hi32:i<32:=by rcases Nat.lt_or_ge i 32 with q|q;exact q;rw [List.getElem?_eq_none (by exact q)] at hx;cases hx
      have hb:TX.length<20000:=by tb_start
      have hb':FN.length<20000:=by tb_start
      clear N' D' N1 D1 hv hS' hl2
      k_steps
      rename News _ _ _ _=>nN
      have nD:=Zd nN (by ktr_unf)
      exact ⟨_,_,_,_,rfl,F',Zc nN (by ktr_rel),Zb nD (by ktr_rel),.head _,hl3,_,_,_,rfl,hS',List.IsPrefix.trans pA pre',by tb_start,by tb_start⟩
    · rintro m₂ nx h tk ⟨hl3,TX,FN,S₃,rfl,hS₃,pA,lA,lB⟩ F2 N2 D2
      have el:vs'.length=32:=hvs'.len
      dsimp only
      k_steps
      exact ret _ TX FN _ _ _ hS₃ pA (by tb_start) (by tb_start) F2 (Zc N2 (by ktr_rel)) (Zb D2 (by ktr_rel))
theorem Za8 {sym sd tl an fl fn n jy S rest}:@V6 w p loose mean mg mb dp un gd outer A₀ base h₀ L m s Qk E sym sd tl an fl fn n jy S rest:=ZN (k:=V5) rfl GD (dC |>.sc (gt dC.c [w]) |>.sd (gt dC.d [p]) |>.sh (gt dC.h [loose]) |>.sk (gt dC.k [mean]) |>.si (gt dC.i [mg,mb,m]) |>.sa (gt dC.a [dp,un,L,sym,sd,tl,an,fl,fn,n]) |>.sl (gt dC.l [gd]) |>.sq (gt dC.q [outer]) |>.se (gt dC.e [A₀]) |>.sj (gt dC.j [base,h₀]) |>.sf (gt dC.f [s]) |>.sx (gt dC.x [Qk]) |>.sg (gt dC.g [E]) |>.svj (gt dC.vj [jy]) |>.sb (gt dC.b [S,rest]))
include B F X T
theorem WC {sym sd tl an fl fn n:Nat}{h1 h2 h3 h4:Int}{k1 k2 k3 k4:Tok}{e1 e2:Nat}{oan ofn:Obj}{rest:List (Addr×Obj)}(N:News h₀ L s.heap ((fn,ofn)::(fl,W.listOf #[] e2)::(an,oan)::(tl,W.listOf #[] e1)::(sym,instObj 154 sd)::(sd,dictOf [⟨h1,.str (.ofString "texts") k1,.ref tl⟩,⟨h2,.str (.ofString "atom_numbers") k2,.ref an⟩,⟨h3,.str (.ofString "functors") k3,.ref fl⟩,⟨h4,.str (.ofString "functor_numbers") k4,.ref fn⟩] n)::rest))(D:Za ((fn,ofn)::(fl,W.listOf #[] e2)::(an,oan)::(tl,W.listOf #[] e1)::(sym,instObj 154 sd)::(sd,dictOf [⟨h1,.str (.ofString "texts") k1,.ref tl⟩,⟨h2,.str (.ofString "atom_numbers") k2,.ref an⟩,⟨h3,.str (.ofString "functors") k3,.ref fl⟩,⟨h4,.str (.ofString "functor_numbers") k4,.ref fn⟩] n)::rest))
   (d1:oan.IsDictOf (strKind PR w) [])(l1:(an==sysModules)=false)(d2:ofn.IsDictOf (intKind PR w) [])(l2:(fn==sysModules)=false)(hl1:m (Str.ofString "self")=some (.ref sym))
   (hE:PassesOwn (model PR w) (ktrTop dp un gd (Str.ofString "Symbols.__init__") Z3 L 81 (aR 80) [] outer) (envOf (Str.ofString "Symbols.__init__") Z3 L 81 (aR 80)) E)
   (hdp:dp+20<recursionLimit)(hun:un+200<cLine)
   (ret:∀ (m':Str→Option Value)(TX:List Str)(FN:List (Int×Int))(S':List (Addr×Obj))(h':Heap)(tk':Nat),Zh w tl an fl fn TX FN S'→ZJ<+:TX→TX.length≤100→FN.length≤100→Fr h₀ L h' m'→News h₀ L h' (S'++((sym,instObj 154 sd)::(sd,dictOf [⟨h1,.str (.ofString "texts") k1,.ref tl⟩,⟨h2,.str (.ofString "atom_numbers") k2,.ref an⟩,⟨h3,.str (.ofString "functors") k3,.ref fl⟩,⟨h4,.str (.ofString "functor_numbers") k4,.ref fn⟩] n)::rest))→Za (S'++((sym,instObj 154 sd)::(sd,dictOf [⟨h1,.str (.ofString "texts") k1,.ref tl⟩,⟨h2,.str (.ofString "atom_numbers") k2,.ref an⟩,⟨h3,.str (.ofString "functors") k3,.ref fl⟩,⟨h4,.str (.ofString "functor_numbers") k4,.ref fn⟩] n)::rest))→Qk .next {s with heap:=h',toks:=tk'}) :
   wpAny (model PR w) (ktrTop dp un gd (Str.ofString "Symbols.__init__") Z3 L 81 (aR 80) [] outer) (execs (List.drop 4 Gn) (envOf (Str.ofString "Symbols.__init__") Z3 L 81 (aR 80))) Qk E s :=
  Za8 B F X T (jy:=⟨fun i=>[h1,h2,h3,h4].getD i 0,fun i=>[k1,k2,k3,k4].getD i 0,fun _=>0⟩) (S:=[(an,oan),(tl,W.listOf #[] e1),(fl,W.listOf #[] e2),(fn,ofn)]) (rest:=(sym,instObj 154 sd)::(sd,dictOf [⟨h1,.str (.ofString "texts") k1,.ref tl⟩,⟨h2,.str (.ofString "atom_numbers") k2,.ref an⟩,⟨h3,.str (.ofString "functors") k3,.ref fl⟩,⟨h4,.str (.ofString "functor_numbers") k4,.ref fn⟩] n)::rest) (Zc N (by ktr_rel)) (ZbT d1 l1 d2 l2) (Zb D (by ktr_rel)) (.head _) (.tail _ (.head _)) hl1 hE hdp hun ret
end
section
variable {w:World}{p:Program}{loose:List Str}{mean:ExcName→Option Value}{mg mb:Str→Option Value}
   {dp un:Nat}{gd:Option (List Code)}{A₀:Around}{base h₀:Heap}{L:Addr}{m:Str→Option Value}{s:Shared}
   (B:Below A₀ base [] h₀)(F:Fr h₀ L s.heap m)(X:(K w.params).In h₀)(T:Top p loose mean mg mb h₀)
include B F X T
variable {Q E:Value→Shared→Prop}
theorem ZmR:True:=by
  walk_at "G slim"
  k_with "execs cons" =>((with_reducible show wpAny _ _ (execs (Stmt.For (Expr.Name (Str.ofString "text") _) _ _ _ _::_) _) _ _ _);k_dflt (refine' WC ?B ?F ?X ?T ?N ?D ?d1 ?l1 ?d2 ?l2 ?hl ?hE ?hd ?hu ?_;(case B=>k_asm);(case F=>k_asm);(case X=>k_asm);(case T=>k_asm);(case N=>k_asm);(case D=>ktr_unf);(case d1=>assumption);(case l1=>assumption);(case d2=>assumption);(case l2=>assumption);(case hl=>exact rfl);(case hE=>passes_own);(case hd=>ktr_room);(case hu=>ktr_units));intro m2 TX' FN' S' h' tk' hS' hpA lA lB F' N' D';(try dsimp only))
  trivial
omit B F X T
noncomputable def JB {news:List (Addr×Obj)}:Prop:=∀ (B:Below A₀ base [] h₀)(F:Fr h₀ L s.heap m)(X:(K w.params).In h₀)(T:Top p loose mean mg mb h₀)(N:News h₀ L s.heap news)(D:Za news)(hdp:dp+30<recursionLimit)(hun:un+300<cLine)(ret:∀ (sym sd tl an fl fn n:Nat)(jy:Hs)(TX:List Str)(FN:List (Int×Int))(S:List (Addr×Obj))(h':Heap)(tk':Nat),Zh w tl an fl fn TX FN S→ZJ<+:TX→TX.length≤100→FN.length≤100→Fr h₀ L h' m→News h₀ L h' (S++((sym,instObj 154 sd)::(sd,Zq jy tl an fl fn n)::news))→Za (S++((sym,instObj 154 sd)::(sd,Zq jy tl an fl fn n)::news))→Q (.ref sym) {s with heap:=h',toks:=tk'}),
   wpAny (model PR w) (ktrTop dp un gd (Str.ofString "law") Zu L 1161 (aR 1160) [(Str.ofString "hand",L+1)] []) (call (.ref 154) []) Q E s
noncomputable def Vx (c:Zf):Prop:=@JB (c.c 0) (c.d 0) (c.h 0) (c.k 0) (c.i 0) (c.i 1) (c.a 0) (c.a 1) (c.l 0) (c.e 0) (c.j 0) (c.j 1) (c.a 2) (c.i 2) (c.f 0) (c.g 0) (c.g 1) (c.b 0)
noncomputable def JA:Zf:=ZM Zj Vx
theorem Za7:Vx JA:=by
  delta Vx
  exists Zf.c _ _,w
  exists Zf.d _ _,p
  exists Zf.h _ _,loose
  exists Zf.k _ _,mean
  exists Zf.i _ _,mg,mb,m
  exists Zf.a _ _,dp,un,L
  exists Zf.l _ _,gd
  exists Zf.e _ _,A₀
  exists Zf.j _ _,base,h₀
  exists Zf.f _ _,s
  exists Zf.g _ _,Q,E
  exists Zf.b _ _,news
  intro B F X T N D hdp hun ret
  delta Zq at *
  k_steps
  rename News _ _ _ _=>nN
  have nD:=Zd nN (by ktr_unf)
  have R:=fun a1 a2 a3 a4 a5 a6 a7 yh0 yh1 yh2 yh3 yk0 yk1 yk2 yk3=>ret a1 a2 a3 a4 a5 a6 a7 ⟨fun i=>[yh0,yh1,yh2,yh3].getD i 0,fun i=>[yk0,yk1,yk2,yk3].getD i 0,fun i=>[].getD i 0⟩
  dsimp only [List.getD_cons_zero,List.getD_cons_succ] at R
  exact R _ _ _ _ _ _ _ _ _ _ _ _ _ _ _ TX' FN' S' _ _ hS' hpA lA lB (by k_asm) (Zc nN (by ktr_rel)) (Zb nD (by ktr_rel))
theorem ZeA {news}:@JB w p loose mean mg mb dp un gd A₀ base h₀ L m s Q E news:=ZN (k:=JA) rfl Za7 (dC |>.sc (gt dC.c [w]) |>.sd (gt dC.d [p]) |>.sh (gt dC.h [loose]) |>.sk (gt dC.k [mean]) |>.si (gt dC.i [mg,mb,m]) |>.sa (gt dC.a [dp,un,L]) |>.sl (gt dC.l [gd]) |>.se (gt dC.e [A₀]) |>.sj (gt dC.j [base,h₀]) |>.sf (gt dC.f [s]) |>.sg (gt dC.g [Q,E]) |>.sb (gt dC.b [news]))
include B F X T
end
theorem ZmQ:True:=by
  walk_at "RST"
  trivial
theorem ZeR {K:Frag}{h₀ h:Heap}{L a:Addr}{m:Str→Option Value}{vs:Array Value}{n:Nat}{dd:Option Addr}{sl:Array (Option Value)}(F:Fr h₀ L h m)(X:K.In h₀)(e:K.lookup a=some ⟨.type "tuple",dd,.seq vs n,sl⟩):IsTup h a vs:=⟨_,(X.keeps F.keep) _ _ e,rfl,n,rfl⟩
theorem ZmP:True:=by
  walk_at "G loop"
  trivial
section
variable {w:World}{p:Program}{loose:List Str}{mean:ExcName→Option Value}{mg mb:Str→Option Value}
   {dp un:Nat}{gd:Option (List Code)}{A₀:Around}{base h₀:Heap}{L:Addr}{m:Str→Option Value}{s:Shared}
   (B:Below A₀ base [] h₀)(F:Fr h₀ L s.heap m)(X:(K w.params).In h₀)(T:Top p loose mean mg mb h₀)
include B F X T
variable {Q E:Value→Shared→Prop}
theorem ZmO:True:=by
  walk_at "G slim"
  trivial
omit B F X T
noncomputable def JQ {news:List (Addr×Obj)}:Prop:=∀ (B:Below A₀ base [] h₀)(F:Fr h₀ L s.heap m)(X:(K w.params).In h₀)(T:Top p loose mean mg mb h₀)(N:News h₀ L s.heap news)(D:Za news)(hdp:dp+30<recursionLimit)(hun:un+300<cLine)(ret:∀ (jf:Hs)(ft8:Tok)(inp outp files alia actn pst:Nat)(flo flod:Nat)(oin oac ops:Obj)(q:Nat)(h':Heap)(tk':Nat),Fr h₀ L h' m→News h₀ L h' ((flo,instObj 541 flod)::(flod,ZL jf inp outp files alia actn pst 1 ft8 9)::(inp,oin)::(actn,oac)::(pst,ops)::news)→Za ((flo,instObj 541 flod)::(flod,ZL jf inp outp files alia actn pst 1 ft8 9)::(inp,oin)::(actn,oac)::(pst,ops)::news)→oin.IsDictOf (intKind PR w) [((0:Int),.ref q)]→oac.IsDictOf (intKind PR w) []→ops.IsDictOf (intKind PR w) []→(actn==sysModules)=false→(pst==sysModules)=false→Q (.ref flo) {s with heap:=h',toks:=tk'}),
   wpAny (model PR w) (ktrTop dp un gd (Str.ofString "law") Zu L 1161 (aR 1160) [(Str.ofString "hand",L+1)] []) (call (.ref 541) []) Q E s
noncomputable def VL (c:Zf):Prop:=@JQ (c.c 0) (c.d 0) (c.h 0) (c.k 0) (c.i 0) (c.i 1) (c.a 0) (c.a 1) (c.l 0) (c.e 0) (c.j 0) (c.j 1) (c.a 2) (c.i 2) (c.f 0) (c.g 0) (c.g 1) (c.b 0)
noncomputable def JP:Zf:=ZM Zj VL
theorem Zbs:VL JP:=by
  delta VL
  exists Zf.c _ _,w
  exists Zf.d _ _,p
  exists Zf.h _ _,loose
  exists Zf.k _ _,mean
  exists Zf.i _ _,mg,mb,m
  exists Zf.a _ _,dp,un,L
  exists Zf.l _ _,gd
  exists Zf.e _ _,A₀
  exists Zf.j _ _,base,h₀
  exists Zf.f _ _,s
  exists Zf.g _ _,Q,E
  exists Zf.b _ _,news
  intro B F X T N D hdp hun ret
  delta ZL at *
  k_steps
  rename News _ _ _ _=>nN
  have nD:=Zd nN (by ktr_unf)
  have R:=fun fh0 fh1 fh2 fh3 fh4 fh5 fh6 fh7 fh8 fk0 fk1 fk2 fk3 fk4 fk5 fk6 fk7 fk8 ft2 ft3=>ret ⟨fun i=>[fh0,fh1,fh2,fh3,fh4,fh5,fh6,fh7,fh8].getD i 0,fun i=>[fk0,fk1,fk2,fk3,fk4,fk5,fk6,fk7,fk8].getD i 0,fun i=>[0,0,ft2,ft3].getD i 0⟩
  dsimp only [List.getD_cons_zero,List.getD_cons_succ] at R
  exact R _ _ _ _ _ _ _ _ _ _ _ _ _ _ _ _ _ _ _ _ _ _ _ _ _ _ _ _ _ _ _ _ _ _ _ (by k_asm) (Zc nN (by ktr_rel)) (Zb nD (by ktr_rel)) (by assumption) (by assumption) (by assumption) (by assumption) (by assumption)
theorem Ze7 {news}:@JQ w p loose mean mg mb dp un gd A₀ base h₀ L m s Q E news:=ZN (k:=JP) rfl Zbs (dC |>.sc (gt dC.c [w]) |>.sd (gt dC.d [p]) |>.sh (gt dC.h [loose]) |>.sk (gt dC.k [mean]) |>.si (gt dC.i [mg,mb,m]) |>.sa (gt dC.a [dp,un,L]) |>.sl (gt dC.l [gd]) |>.se (gt dC.e [A₀]) |>.sj (gt dC.j [base,h₀]) |>.sf (gt dC.f [s]) |>.sg (gt dC.g [Q,E]) |>.sb (gt dC.b [news]))
include B F X T
theorem ZmN:True:=by
  k_with "compareOp In str ref" =>(k_here;(with_reducible show wpAny _ _ (compareOp CmpOp.In (Value.str _ _) (Value.ref _)) _ _ _);(with_unfolding_all refine' in_tuple_strs ?k1 ?k2 ?_;(case k1=>exact ZeR (by k_asm) (by k_asm) (by k_is));(case k2=>kde_strs));k_whole)
  trivial
omit B F X T
noncomputable def JH {sym:Nat}{news:List (Addr×Obj)}:Prop:=∀ (B:Below A₀ base [] h₀)(F:Fr h₀ L s.heap m)(X:(K w.params).In h₀)(T:Top p loose mean mg mb h₀)(N:News h₀ L s.heap news)(D:Za news)(hdp:dp+30<recursionLimit)(hun:un+300<cLine)(ret:∀ (x:Nat)(h':Heap)(tk':Nat),Fr h₀ L h' m→News h₀ L h' news→Q (.ref x) {s with heap:=h',toks:=tk'}),
   wpAny (model PR w) (ktrTop dp un gd (Str.ofString "law") Zu L 1161 (aR 1160) [(Str.ofString "hand",L+1)] []) (call (.ref 769) [.ref sym,.bool false]) Q E s
noncomputable def VD (c:Zf):Prop:=@JH (c.c 0) (c.d 0) (c.h 0) (c.k 0) (c.i 0) (c.i 1) (c.a 0) (c.a 1) (c.l 0) (c.e 0) (c.j 0) (c.j 1) (c.a 2) (c.i 2) (c.f 0) (c.g 0) (c.g 1) (c.a 3) (c.b 0)
noncomputable def JG:Zf:=ZM Zj VD
theorem Zbh:VD JG:=by
  delta VD
  exists Zf.c _ _,w
  exists Zf.d _ _,p
  exists Zf.h _ _,loose
  exists Zf.k _ _,mean
  exists Zf.i _ _,mg,mb,m
  exists Zf.a _ _,dp,un,L,sym
  exists Zf.l _ _,gd
  exists Zf.e _ _,A₀
  exists Zf.j _ _,base,h₀
  exists Zf.f _ _,s
  exists Zf.g _ _,Q,E
  exists Zf.b _ _,news
  intro B F X T N D hdp hun ret
  k_steps
  exact ret _ _ _ (by k_asm) (Zc (by k_asm) (by ktr_rel))
theorem ZeK {sym news}:@JH w p loose mean mg mb dp un gd A₀ base h₀ L m s Q E sym news:=ZN (k:=JG) rfl Zbh (dC |>.sc (gt dC.c [w]) |>.sd (gt dC.d [p]) |>.sh (gt dC.h [loose]) |>.sk (gt dC.k [mean]) |>.si (gt dC.i [mg,mb,m]) |>.sa (gt dC.a [dp,un,L,sym]) |>.sl (gt dC.l [gd]) |>.se (gt dC.e [A₀]) |>.sj (gt dC.j [base,h₀]) |>.sf (gt dC.f [s]) |>.sg (gt dC.g [Q,E]) |>.sb (gt dC.b [news]))
include B F X T
end
theorem ZmM:True:=by
  walk_at "RST"
  walk_at "G loop"
  trivial
@[reducible] noncomputable def mm5 (a0 a1 a2 a3 a4:Int)(b0 b1 b2 b3 b4 c2 c4:Tok)(sym mcode:Nat)(l:List DictEntry)(n:Nat):Obj:=dictOf (⟨a0,.str (.ofString "symbols") b0,.ref sym⟩::⟨a1,.str (.ofString "code") b1,.ref mcode⟩::⟨a2,.str (.ofString "max_heap") b2,.int 100000 c2⟩::⟨a3,.str (.ofString "occurs") b3,.bool true⟩::⟨a4,.str (.ofString "max_bits") b4,.int 4096 c4⟩::l) n
@[reducible] noncomputable def ZeN (M:Hs)(sto xl grd rts bgs:Nat):List DictEntry:=[⟨M.h 5,.str (.ofString "store") (M.k 5),.ref sto⟩,⟨M.h 6,.str (.ofString "x") (M.k 6),.ref xl⟩,⟨M.h 7,.str (.ofString "p") (M.k 7),.int 0 (M.t 7)⟩,⟨M.h 8,.str (.ofString "cp") (M.k 8),.int 0 (M.t 8)⟩,⟨M.h 9,.str (.ofString "e") (M.k 9),.int (-1) (M.t 9)⟩,⟨M.h 10,.str (.ofString "b") (M.k 10),.int (-1) (M.t 10)⟩,⟨M.h 11,.str (.ofString "b0") (M.k 11),.int (-1) (M.t 11)⟩,⟨M.h 12,.str (.ofString "mode") (M.k 12),.str (.ofString "read") (M.t 12)⟩,⟨M.h 13,.str (.ofString "s") (M.k 13),.int 0 (M.t 13)⟩,⟨M.h 14,.str (.ofString "guard") (M.k 14),.ref grd⟩,⟨M.h 15,.str (.ofString "roots") (M.k 15),.ref rts⟩,⟨M.h 16,.str (.ofString "bags") (M.k 16),.ref bgs⟩,⟨M.h 17,.str (.ofString "collect_wanted") (M.k 17),.bool false⟩]
section
variable {w:World}{p:Program}{loose:List Str}{mean:ExcName→Option Value}{mg mb:Str→Option Value}
   {dp un:Nat}{gd:Option (List Code)}{cn:Str}{cs:Scope}{a:Addr}{ccd:Value}{cl:List (Str×Addr)}{outer:List Env}{A₀:Around}{base h₀:Heap}{L:Addr}{m:Str→Option Value}{s:Shared}{Q E:Value→Shared→Prop}
   (B:Below A₀ base outer h₀)(F:Fr h₀ L s.heap m)(X:(K w.params).In h₀)(T:Top p loose mean mg mb h₀)(hk:cs.kind = .function)
include B F X T hk
theorem ZmL:True:=by
  walk_at "G slim"
  trivial
omit B F X T hk
noncomputable def JD {sym mcode mad mmd:Nat}{a0 a1 a2 a3 a4:Int}{b0 b1 b2 b3 b4 c2 c4:Tok}{news rest:List (Addr×Obj)}:Prop:=∀ (B:Below A₀ base outer h₀)(F:Fr h₀ L s.heap m)(X:(K w.params).In h₀)(T:Top p loose mean mg mb h₀)(hk:cs.kind = .function)(N:News h₀ L s.heap news)(D:Za news)(P:Tk [(mcode,W.listOf #[] 0),(mad,instObj 1104 mmd),(mmd,mm5 a0 a1 a2 a3 a4 b0 b1 b2 b3 b4 c2 c4 sym mcode [] 5)] news rest)(hdp:dp+15<recursionLimit)(hun:un+150<cLine)(ret:∀ (jm:Hs)(xl grd rts bgs:Nat)(x1:Value)(js:Hs)(hp stk trl sto stod:Nat)(h':Heap)(tk':Nat),Fr h₀ L h' m→News h₀ L h' ((mad,instObj 1104 mmd)::(mmd,mm5 a0 a1 a2 a3 a4 b0 b1 b2 b3 b4 c2 c4 sym mcode (ZeN jm sto xl grd rts bgs) 18)::(sto,instObj 430 stod)::(stod,Zy js sym hp stk trl 7)::(hp,W.listOf #[] 0)::(xl,W.listOf #[x1] 0)::rest)→Za ((mad,instObj 1104 mmd)::(mmd,mm5 a0 a1 a2 a3 a4 b0 b1 b2 b3 b4 c2 c4 sym mcode (ZeN jm sto xl grd rts bgs) 18)::(sto,instObj 430 stod)::(stod,Zy js sym hp stk trl 7)::(hp,W.listOf #[] 0)::(xl,W.listOf #[x1] 0)::rest)→Q .none {s with heap:=h',toks:=tk'}),
   wpAny (model PR w) (ktrTop dp un gd cn cs L a ccd cl outer) (call (.ref 926) [.ref mad]) Q E s
noncomputable def VA (c:Zf):Prop:=@cF _ (@JD) c (c.a 4) (c.a 5) (c.a 6) (c.a 7) (c.m 0) (c.m 1) (c.m 2) (c.m 3) (c.m 4) (c.o 0) (c.o 1) (c.o 2) (c.o 3) (c.o 4) (c.o 5) (c.o 6) (c.b 0) (c.b 1)
noncomputable def JC:Zf:=ZM Zj VA
theorem Zbe:VA JC:=by
  delta VA cF
  k_extra "gS"
  exists Zf.a _ _,sym,mcode,mad,mmd
  exists Zf.m _ _,a0,a1,a2,a3,a4
  exists Zf.o _ _,b0,b1,b2,b3,b4,c2,c4
  exists Zf.b _ _,news,rest
  intro B F X T hk N D P hdp hun ret
  delta Zy at *
  have N₁:=Ze N P.perm
  have D₁:=D.perm P.perm
  clear N D P
  delta mm5 ZeN at *
  refine wpAny_call ?_
  k_dflt cell_enter
  k_steps
  rename News _ _ _ _=>nN
  have nD:=Zd nN (by ktr_unf)
  have R:=fun mh5 mh6 mh7 mh8 mh9 mh10 mh11 mh12 mh13 mh14 mh15 mh16 mh17 mk5 mk6 mk7 mk8 mk9 mk10 mk11 mk12 mk13 mk14 mk15 mk16 mk17 mt7 mt8 mt9 mt10 mt11 mt12 mt13 q0 q1 q2 q3 q4 sh0 sh1 sh2 sh3 sh4 sh5 sh6 sk0 sk1 sk2 sk3 sk4 sk5 sk6 st1 st5 st6=>ret ⟨fun i=>[0,0,0,0,0,mh5,mh6,mh7,mh8,mh9,mh10,mh11,mh12,mh13,mh14,mh15,mh16,mh17].getD i 0,fun i=>[0,0,0,0,0,mk5,mk6,mk7,mk8,mk9,mk10,mk11,mk12,mk13,mk14,mk15,mk16,mk17].getD i 0,fun i=>[0,0,0,0,0,0,0,mt7,mt8,mt9,mt10,mt11,mt12,mt13].getD i 0⟩ q0 q1 q2 q3 q4 ⟨fun i=>[sh0,sh1,sh2,sh3,sh4,sh5,sh6].getD i 0,fun i=>[sk0,sk1,sk2,sk3,sk4,sk5,sk6].getD i 0,fun i=>[0,st1,0,0,0,st5,st6].getD i 0⟩
  dsimp only [List.getD_cons_zero,List.getD_cons_succ] at R
  exact R _ _ _ _ _ _ _ _ _ _ _ _ _ _ _ _ _ _ _ _ _ _ _ _ _ _ _ _ _ _ _ _ _ _ _ _ _ _ _ _ _ _ _ _ _ _ _ _ _ _ _ _ _ _ _ _ _ _ _ _ _ _ (by k_asm) (Zc nN (by ktr_rel)) (Zb nD (by ktr_rel))
theorem ZeF {sym mcode mad mmd a0 a1 a2 a3 a4 b0 b1 b2 b3 b4 c2 c4 news rest}:@JD w p loose mean mg mb dp un gd cn cs a ccd cl outer A₀ base h₀ L m s Q E sym mcode mad mmd a0 a1 a2 a3 a4 b0 b1 b2 b3 b4 c2 c4 news rest:=ZN (k:=JC) rfl Zbe (cS w p loose mean mg mb m gd cn cs ccd cl outer A₀ base h₀ s Q E |>.sa (gt dC.a [dp,un,a,L,sym,mcode,mad,mmd]) |>.sm (gt dC.m [a0,a1,a2,a3,a4]) |>.so (gt dC.o [b0,b1,b2,b3,b4,c2,c4]) |>.sb (gt dC.b [news,rest]))
include B F X T hk
end
section
variable {w:World}{p:Program}{loose:List Str}{mean:ExcName→Option Value}{mg mb:Str→Option Value}
   {dp un:Nat}{gd:Option (List Code)}{A₀:Around}{base h₀:Heap}{L:Addr}{m:Str→Option Value}{s:Shared}
   (B:Below A₀ base [] h₀)(F:Fr h₀ L s.heap m)(X:(K w.params).In h₀)(T:Top p loose mean mg mb h₀)
include B F X T
variable {Q E:Value→Shared→Prop}
theorem ZmK:True:=by
  k_with "call ref" =>(k_here;(with_reducible show wpAny _ _ (call (Value.ref 926) _) _ _ _);k_dflt (refine' ZeF (B:=?zB) (F:=?zF) (X:=?zX) (T:=?zT) (hk:=?zhk) (N:=?zN) (hdp:=?zhdp) (hun:=?zhun) (P:=?zP) (D:=?zD) (ret:=?_);(case zB=>k_asm);(case zF=>k_asm);(case zX=>k_asm);(case zT=>k_asm);(case zhk=>first|exact rfl|assumption);(case zN=>k_asm);(case zP=>ktr_rel);(case zhdp=>ktr_room);(case zhun=>ktr_units);(case zD=>ktr_unf));intro jm' xl' grd' rts' bgs' x1' js' hp' stk' trl' sto' stod' h' tk' F' N' D';(try delta mm5 ZeN at N' D');(try dsimp only))
  trivial
omit B F X T
noncomputable def JJ {sym flo oprs flgs:Nat}{news:List (Addr×Obj)}:Prop:=∀ (B:Below A₀ base [] h₀)(F:Fr h₀ L s.heap m)(X:(K w.params).In h₀)(T:Top p loose mean mg mb h₀)(N:News h₀ L s.heap news)(D:Za news)(hdp:dp+40<recursionLimit)(hun:un+300<cLine)(ret:∀ (jm:Hs)(mcode xl grd rts bgs dbs m_n:Nat)(mad mmd:Nat)(js:Hs)(hp stk trl s_n:Nat)(sto stod:Nat)(jd:Hs)(d_n:Nat)(dbd:Nat)(x1:Value)(h':Heap)(tk':Nat),Fr h₀ L h' m→News h₀ L h' ((mad,instObj 1104 mmd)::(mmd,ZB jm sym mcode sto xl grd rts bgs dbs m_n)::(sto,instObj 430 stod)::(stod,Zy js sym hp stk trl s_n)::(dbs,instObj 1083 dbd)::(dbd,Z8 jd flo oprs flgs d_n)::(hp,W.listOf #[] 0)::(xl,W.listOf #[x1] 0)::news)→Za ((mad,instObj 1104 mmd)::(mmd,ZB jm sym mcode sto xl grd rts bgs dbs m_n)::(sto,instObj 430 stod)::(stod,Zy js sym hp stk trl s_n)::(dbs,instObj 1083 dbd)::(dbd,Z8 jd flo oprs flgs d_n)::(hp,W.listOf #[] 0)::(xl,W.listOf #[x1] 0)::news)→Q (.ref mad) {s with heap:=h',toks:=tk'}),
   wpAny (model PR w) (ktrTop dp un gd (Str.ofString "law") Zu L 1161 (aR 1160) [(Str.ofString "hand",L+1)] []) (call (.ref 1104) [.ref sym,.ref flo,.ref oprs,.ref flgs]) Q E s
noncomputable def VG (c:Zf):Prop:=@JJ (c.c 0) (c.d 0) (c.h 0) (c.k 0) (c.i 0) (c.i 1) (c.a 0) (c.a 1) (c.l 0) (c.e 0) (c.j 0) (c.j 1) (c.a 2) (c.i 2) (c.f 0) (c.g 0) (c.g 1) (c.a 3) (c.a 4) (c.a 5) (c.a 6) (c.b 0)
noncomputable def JI:Zf:=ZM Zj VG
theorem Zbm:VG JI:=by
  delta VG
  exists Zf.c _ _,w
  exists Zf.d _ _,p
  exists Zf.h _ _,loose
  exists Zf.k _ _,mean
  exists Zf.i _ _,mg,mb,m
  exists Zf.a _ _,dp,un,L,sym,flo,oprs,flgs
  exists Zf.l _ _,gd
  exists Zf.e _ _,A₀
  exists Zf.j _ _,base,h₀
  exists Zf.f _ _,s
  exists Zf.g _ _,Q,E
  exists Zf.b _ _,news
  intro B F X T N D hdp hun ret
  delta Zy ZB Z8 at *
  k_steps
  rename News _ _ _ _=>nN
  have nD:=Zd nN (by ktr_unf)
  have R:=fun mh0 mh1 mh2 mh3 mh4 mh5 mh6 mh7 mh8 mh9 mh10 mh11 mh12 mh13 mh14 mh15 mh16 mh17 mh18 mk0 mk1 mk2 mk3 mk4 mk5 mk6 mk7 mk8 mk9 mk10 mk11 mk12 mk13 mk14 mk15 mk16 mk17 mk18 mt2 mt4 mt7 mt8 mt9 mt10 mt11 mt12 mt13 a0 a1 a2 a3 a4 a5 a6 a7 a8 sh0 sh1 sh2 sh3 sh4 sh5 sh6 sk0 sk1 sk2 sk3 sk4 sk5 sk6 st1 st5 st6 b0 b1 b2 b3 b4 b5 dh0 dh1 dh2 dk0 dk1 dk2 c0 c1=>ret ⟨fun i=>[mh0,mh1,mh2,mh3,mh4,mh5,mh6,mh7,mh8,mh9,mh10,mh11,mh12,mh13,mh14,mh15,mh16,mh17,mh18].getD i 0,fun i=>[mk0,mk1,mk2,mk3,mk4,mk5,mk6,mk7,mk8,mk9,mk10,mk11,mk12,mk13,mk14,mk15,mk16,mk17,mk18].getD i 0,fun i=>[0,0,mt2,0,mt4,0,0,mt7,mt8,mt9,mt10,mt11,mt12,mt13].getD i 0⟩ a0 a1 a2 a3 a4 a5 a6 a7 a8 ⟨fun i=>[sh0,sh1,sh2,sh3,sh4,sh5,sh6].getD i 0,fun i=>[sk0,sk1,sk2,sk3,sk4,sk5,sk6].getD i 0,fun i=>[0,st1,0,0,0,st5,st6].getD i 0⟩ b0 b1 b2 b3 b4 b5 ⟨fun i=>[dh0,dh1,dh2].getD i 0,fun i=>[dk0,dk1,dk2].getD i 0,fun i=>[].getD i 0⟩ c0 c1
  dsimp only [List.getD_cons_zero,List.getD_cons_succ] at R
  exact R _ _ _ _ _ _ _ _ _ _ _ _ _ _ _ _ _ _ _ _ _ _ _ _ _ _ _ _ _ _ _ _ _ _ _ _ _ _ _ _ _ _ _ _ _ _ _ _ _ _ _ _ _ _ _ _ _ _ _ _ _ _ _ _ _ _ _ _ _ _ _ _ _ _ _ _ _ _ _ _ _ _ _ _ _ _ _ _ _ _ (by k_asm) (Zc nN (by ktr_rel)) (Zb nD (by ktr_rel))
theorem ZeP {sym flo oprs flgs news}:@JJ w p loose mean mg mb dp un gd A₀ base h₀ L m s Q E sym flo oprs flgs news:=ZN (k:=JI) rfl Zbm (dC |>.sc (gt dC.c [w]) |>.sd (gt dC.d [p]) |>.sh (gt dC.h [loose]) |>.sk (gt dC.k [mean]) |>.si (gt dC.i [mg,mb,m]) |>.sa (gt dC.a [dp,un,L,sym,flo,oprs,flgs]) |>.sl (gt dC.l [gd]) |>.se (gt dC.e [A₀]) |>.sj (gt dC.j [base,h₀]) |>.sf (gt dC.f [s]) |>.sg (gt dC.g [Q,E]) |>.sb (gt dC.b [news]))
include B F X T
end
theorem ZmJ:True:=by
  walk_at "RST"
  walk_at "G loop"
  trivial
noncomputable def Zkk:Stmt→List Stmt | .For _ _ b _ _=>b|_=>[]
@[reducible] noncomputable def fbF:List Stmt:=by refine (?f:∀ l:List Stmt,l=Zkk (Gf Gm 4)→List Stmt) _ (by conv=>{rhs;whnf});exact fun l _=>l
section
variable {w:World}{p:Program}{loose:List Str}{mean:ExcName→Option Value}{mg mb:Str→Option Value}
   {dp un:Nat}{gd:Option (List Code)}{outer:List Env}{A₀:Around}{base h₀:Heap}{L:Addr}{m:Str→Option Value}{s:Shared}{Qk:Flow→Shared→Prop}{E:Value→Shared→Prop}
   (B:Below A₀ base outer h₀)(F:Fr h₀ L s.heap m)(X:(K w.params).In h₀)(T:Top p loose mean mg mb h₀)
include B F X T
theorem ZmI:True:=by
  walk_at "G slim"
  k_with "eval Name" =>(k_here;k_dflt (refine' nameX_L ?F ?hv ?_ ?hk ?hx ?hd;(case hk=>exact rfl);(case hx=>exact rfl);(case hd=>decide);(case F=>k_asm);(case hv=>first|exact hl1|exact hl2|exact hl3|exact hl4|exact hl5|exact hl6)))
  k_with "setItem ref str" =>(k_here;(with_reducible show wpAny _ _ (setItem (Value.ref _) (Value.str _ _) _) _ _ _);k_dflt (refine' kda_set (knd:=strKind _ _) ?F ?N ?U ?d (strKind_is _ _ _ _) ?z ?_;(case F=>k_asm);(case N=>k_asm);(case U=>k_updF);(case d=>with_reducible assumption);(case z=>first|with_reducible assumption|k_whole));intro h' o' F' N' hd';(try dsimp only at N'))
  k_with "call ref" =>(k_here;(with_reducible show wpAny _ _ (call (Value.ref 88) _) _ _ _);k_dflt (refine' ZW (B:=?zB) (F:=?zF) (X:=?zX) (T:=?zT) (hk:=?zhk) (N:=?zN) (hdp:=?zhdp) (hun:=?zhun) (hm1:=?zhm1) (hm2:=?zhm2) (hS:=?zhS) (P:=?zP) (D:=?zD) (hb:=?zhb) (ret:=?_);k_extra "z6";(case zhS=>first|with_reducible assumption|k_asm);(case zP=>ktr_rel);(case zhm1=>k_mem);(case zhm2=>k_mem);(case zhb=>tb_start);(case zhdp=>ktr_room);(case zhun=>ktr_units);(case zD=>ktr_unf));intro i' t' TX' S' h' tk' hi' pre' len' hS' F' N' D';(try dsimp only))
  trivial
theorem Zc2 {sym sd tl an fl fn n:Nat}{jy:Hs}{self sf vd fd fx fe:Nat}{ovd ofd:Obj}{kv kf:List (Str×Value)}{its:Array Value}{q1 q2 q3 q4:Int}{r1 r2 r3 r4 t1 t2:Tok}{fn9:Nat}{x y:Str}{fr:Bool}{ft:Nat}{TX:List Str}{FN:List (Int×Int)}{S news rest:List (Addr×Obj)}
   (N:News h₀ L s.heap news)(P:Tk ((vd,ovd)::(fd,ofd)::(fx,W.listOf its fe)::S) news rest)(hS:Zh w tl an fl fn TX FN S)(D:Za news)(hm1:(sym,instObj 154 sd)∈rest)(hm2:(sd,Zq jy tl an fl fn n)∈rest)(hb:TX.length<2000)
   (mi1:(self,instObj 823 sf)∈rest)(mi2:(sf,dictOf [⟨q1,.str (.ofString "symbols") r1,.ref sym⟩,⟨q2,.str (.ofString "values") r2,.ref vd⟩,⟨q3,.str (.ofString "fitting") r3,.ref fd⟩,⟨q4,.str (.ofString "fixed") r4,.ref fx⟩] fn9)∈rest)(n1:(self,instObj 823 sf)∈news)(n2:(sf,dictOf [⟨q1,.str (.ofString "symbols") r1,.ref sym⟩,⟨q2,.str (.ofString "values") r2,.ref vd⟩,⟨q3,.str (.ofString "fitting") r3,.ref fd⟩,⟨q4,.str (.ofString "fixed") r4,.ref fx⟩] fn9)∈news)
   (hvd:ovd.IsDictOf (strKind PR w) kv)(hfd:ofd.IsDictOf (strKind PR w) kf)(z1:kv.length<50)(z2:kf.length<50)(z3:its.size<50)
   (hl1:m (Str.ofString "self")=some (.ref self))(hl2:m (Str.ofString "name")=some (.str x t1))(hl3:m (Str.ofString "start")=some (.str y t2))(hl4:m (Str.ofString "fitting")=some (.ref ft))(hl5:m (Str.ofString "free")=some (.bool fr))(hl6:m (Str.ofString "symbols")=some (.ref sym))
   (hdp:dp+20<recursionLimit)(hun:un+200<cLine)
   (nx:∀ (ovd' ofd':Obj)(kv' kf':List (Str×Value))(its':Array Value)(fe':Nat)(TX':List Str)(S':List (Addr×Obj))(h':Heap)(tk':Nat),ovd'.IsDictOf (strKind PR w) kv'→ofd'.IsDictOf (strKind PR w) kf'→kv'.length≤kv.length+1→kf'.length≤kf.length+1→its'.size≤its.size+1→Zh w tl an fl fn TX' FN S'→TX<+:TX'→TX'.length≤TX.length+1→Fr h₀ L h' m→News h₀ L h' ((vd,ovd')::(fd,ofd')::(fx,W.listOf its' fe')::(S'++rest))→Za ((vd,ovd')::(fd,ofd')::(fx,W.listOf its' fe')::(S'++rest))→Qk .next {s with heap:=h',toks:=tk'}) :
   wpAny (model PR w) (ktrTop dp un gd (Str.ofString "Flags.__init__") Yx L 785 (aR 784) [] outer) (execs fbF (envOf (Str.ofString "Flags.__init__") Yx L 785 (aR 784))) Qk E s:=by
  delta Zq at *
  have N₁:=Ze N P.perm
  have D₁:=D.perm P.perm
  simp only [List.cons_append] at N₁ D₁
  have zz1:kv.length≤sizeLine:=by rw [PySem.sizeLine_eq];tb_start
  have zz2:kf.length≤sizeLine:=by rw [PySem.sizeLine_eq];tb_start
  have zz3:Zl its:=by unfold Zl;tb_start
  clear N D P n1 n2
  k_steps
  · rename News _ _ _ _=>nN
    have nD:=Zd nN (by ktr_unf)
    exact nx _ _ (stored kv x _) (stored kf x _) its fe TX' S' _ _ (by with_reducible assumption) (by with_reducible assumption) (stored_length_le _ _ _) (stored_length_le _ _ _) (by tb_start) hS' pre' len' (by k_asm) (Zc nN (by ktr_rel)) (Zb nD (by ktr_rel))
  · rename News _ _ _ _=>nN
    have nD:=Zd nN (by ktr_unf)
    exact nx _ _ (stored kv x _) (stored kf x _) (its.push (.str x t1)) (fe+1) TX' S' _ _ (by with_reducible assumption) (by with_reducible assumption) (stored_length_le _ _ _) (stored_length_le _ _ _) (by rw [Array.size_push];tb_start) hS' pre' len' (by k_asm) (Zc nN (by ktr_rel)) (Zb nD (by ktr_rel))
end
theorem ZmH:True:=by
  walk_at "RST"
  trivial
theorem Wy {prog:Program}{w:World}{A:Around}{E:Value→Shared→Prop}{s:Shared}{env:Env}{h₀:Heap}{target:Expr}{body:List Stmt}{Q:Flow→Shared→Prop}
    {ax:Addr} {lo:Obj} {vs:List Value} {n:Nat} {m₀:Str→Option Value} {news:List (Addr×Obj)} (J:Nat→(Str→Option Value)→List (Addr×Obj)→Prop)
    (hh:A.handled=none) (F:Fr h₀ env.locals s.heap m₀) (N:News h₀ env.locals s.heap news) (D:Za news) (hm:(ax,lo)∈news) (hc:lo.cls = .type "tuple") (hd:lo.data = .seq vs.toArray n) (hj:J 0 m₀ news)
    (turn:∀ i (I:Nat) (oI:Obj) v m₁ nx h tk,vs[i]? = some v→J i m₁ nx→Fr h₀ env.locals h m₁→News h₀ env.locals h ((I,oI)::nx)→Za ((I,oI)::nx) →
      wpAny (model prog w) A (assign target env v) (fun _ s₂=>wpAny (model prog w) A (execs body env) (Wv h₀ env.locals I oI (fun m' nx=>(ax,lo)∈nx∧J (i+1) m' nx) {s with heap:=h,toks:=tk} Q) E s₂) E {s with heap:=h,toks:=tk})
    (done:∀ m₁ nx h tk,J vs.length m₁ nx→Fr h₀ env.locals h m₁→News h₀ env.locals h nx→Za nx→Q .next {s with heap:=h,toks:=tk}) :
    wpAny (model prog w) A (pyIter (.ref ax)) (fun it s₂=>TurnsAt prog w A h₀ env target body Q E it s₂) E s:=by
  refine iter_tupTurns hh F N hm hc hd fun I hI=>?_
  have key:∀ (k i:Nat) (m₁:Str→Option Value) (nx:List (Addr×Obj)),i+k=vs.length→J i m₁ nx→(ax,lo)∈nx→Za nx→(∀ p∈nx,p.1≠I)→ItemsRest prog w A E h₀ env target body Q s [(I,"tuple_iterator")] [(ax,lo)] ((vs.drop i).map .val) m₁ nx:=by
    intro k
    induction k with
    | zero =>
      intro i m₁ nx e hJ _ hD _
      have z:vs.drop i=[]:=List.drop_eq_nil_of_le (by tb_start)
      rw [z]
      have e':i=vs.length:=by tb_start
      subst e'
      exact ItemsRest.zero fun h tk F' N'=>done m₁ nx h tk hJ F' N' hD
    | succ k ih =>
      intro i m₁ nx e hJ hm' hD hne
      have hi:i<vs.length:=by tb_start
      rw [List.drop_eq_getElem_cons hi]
      refine ItemsRest.val fun h tk F'=>?_
      refine AllObj.cons fun o _=>AllObj.nil fun N'=>?_
      refine wpAny_mono (turn i I o _ m₁ nx h tk (List.getElem?_eq_getElem hi) hJ F' N' (Gr hne hD)) (fun _ s₂ h₂=>wpAny_mono h₂ (fun f s₃ p=>?_) fun _ _ e=>e) fun _ _ e=>e
      have fin:(∃ h' tk' m' nx',s₃={s with heap:=h',toks:=tk'}∧Fr h₀ env.locals h' m'∧News h₀ env.locals h' ((I,o)::nx')∧Za ((I,o)::nx')∧((ax,lo)∈nx'∧J (i+1) m' nx'))→UnrEndW h₀ env.locals {s with heap:=h,toks:=tk} [(I,o)] (fun m' n'=>SubL [(ax,lo)] n'∧ItemsRest prog w A E h₀ env target body Q s [(I,"tuple_iterator")] [(ax,lo)] ((vs.drop (i+1)).map .val) m' n') s₃:=by
        rintro ⟨h',tk',m',nx',e',F₂,N₂,D₂,hm₂,hJ₂⟩
        refine ⟨h',tk',m',nx',e',F₂,N₂,fun p hp q hq=>?_,⟨hm₂,trivial⟩,ih (i+1) m' nx' (by tb_start) hJ₂ hm₂ (W3 D₂) (Gq D₂)⟩
        rw [List.mem_singleton.mp hq]
        exact Gq D₂ p hp
      cases f with
      | ret v=>exact p
      | brk=>exact p
      | next=>exact fin p
      | cont=>exact fin p
  exact key vs.length 0 m₀ news (by tb_start) hj hm D fun p hp=>Nat.ne_of_lt (hI p hp)
inductive FRows (R:List (Addr×Obj)):List Value→Nat→Prop
  | nil:FRows R [] 0
  | cons {r ft:Nat} {x y:Str} {b:Bool} {t u:Tok} {vs:List Value} {n:Nat}:(r,({cls :=.type "tuple",data :=.seq [Value.str x t,Value.str y u,Value.ref ft,Value.bool b].toArray}:Obj))∈R→FRows R vs n→FRows R (.ref r::vs) (n+1)
theorem FRows.at {R:List (Addr×Obj)}{vs:List Value}{n:Nat}(h:FRows R vs n):∀ {i:Nat}{v:Value},vs[i]? = some v→∃ (r ft:Nat)(x y:Str)(b:Bool)(t u:Tok),v = .ref r∧(r,({cls :=.type "tuple",data :=.seq [Value.str x t,Value.str y u,Value.ref ft,Value.bool b].toArray}:Obj))∈R:=by
  induction h with
  | nil=>intro i v e;simp at e
  | @cons r ft x y b t u vs n hm h ih =>
    intro i v e
    cases i with
    | zero=>exact ⟨r,ft,x,y,b,t,u,by simpa using e.symm,hm⟩
    | succ i=>simpa using ih (by simpa using e)
theorem FRows.len {R:List (Addr×Obj)}{vs:List Value}{n:Nat}(h:FRows R vs n):vs.length=n:=by
  induction h with
  | nil=>rfl
  | cons _ h ih=>simp [ih]
theorem FRows.mono {R R':List (Addr×Obj)}(hs:∀ q∈R,q∈R'){vs:List Value}{n:Nat}(h:FRows R vs n):FRows R' vs n:=by
  induction h with
  | nil=>exact .nil
  | cons hm h ih=>exact .cons (hs _ hm) ih
inductive SExprs:List PySem.Expr→Prop
  | nil:SExprs []
  | cons {x:Str} {k:Nat} {p:Pos} {es:List PySem.Expr}:SExprs es→SExprs (PySem.Expr.Constant (.str x) k p::es)
inductive FExprs:List PySem.Expr→Nat→Prop
  | nil:FExprs [] 0
  | cons {x y:Str} {b:Bool} {n1 n2 n3 n4 n5 n:Nat} {p1 p2 p3 p4 p5:Pos} {zs es:List PySem.Expr}:SExprs zs→zs.length≤3→FExprs es n→FExprs (PySem.Expr.Tuple [PySem.Expr.Constant (.str x) n1 p1,PySem.Expr.Constant (.str y) n2 p2,PySem.Expr.Tuple zs n3 p3,PySem.Expr.Constant (.bool b) n4 p4] n5 p5::es) (n+1)
theorem Zba {prog:Program}{w:World}{A:Around}{E:Value→Shared→Prop}{env:Env}{pos:Pos}{es:List PySem.Expr}(SE:SExprs es):∀ {s:Shared}{Q:List Value→Shared→Prop},(∀ (vs:List Value)(tk':Nat),vs.length=es.length→Q vs {s with toks:=tk'})→wpAny (model prog w) A (spliced (backTo pos (starEach es env))) Q E s:=by
  induction SE with
  | nil=>intro s Q h;exact args_nil (h [] s.toks rfl)
  | @cons x k p es SE ih =>
    intro s Q h
    refine args_cons (Constant_str (ih fun vs tk' e=>?_))
    exact h _ tk' (by rw [List.length_cons,List.length_cons,e])
theorem WX {prog:Program}{w:World}{A:Around}{E:Value→Shared→Prop}{env:Env}{h₀:Heap}{L:Addr}{m:Str→Option Value}{es:List PySem.Expr}{n:Nat}(RE:FExprs es n):∀ {news:List (Addr×Obj)}{s:Shared}{Q:List Value→Shared→Prop}{pos:Pos},Fr h₀ L s.heap m→News h₀ L s.heap news→Za news →
    (∀ (vs:List Value) (R:List (Addr×Obj)) (h':Heap) (tk':Nat),FRows R vs n→Fr h₀ L h' m→News h₀ L h' (R++news)→Za (R++news)→Q vs {s with heap:=h',toks:=tk'}) →
    wpAny (model prog w) A (spliced (backTo pos (starEach es env))) Q E s:=by
  induction RE with
  | nil=>intro news s Q pos F N D h;exact args_nil (h [] [] s.heap s.toks .nil F N D)
  | @cons x y b n1 n2 n3 n4 n5 n p1 p2 p3 p4 p5 zs es SE hk RE ih =>
    intro news s Q pos F N D h
    refine args_cons (Tuple_ (args_cons (Constant_str (args_cons (Constant_str (args_cons (Tuple_ (Zba SE fun vz tz ez=>?_))))))))
    refine YL F N D (fun d h1 F1 N1 D1=>?_) (Nat.le_trans (Nat.le_of_eq ez) (Nat.le_trans hk (Nat.le_of_ble_eq_true rfl)))
    refine args_cons (wpAny_Constant_bool (args_nil ?_))
    refine YL F1 N1 D1 (fun d2 h2 F2 N2 D2=>?_) (Nat.le_of_ble_eq_true rfl)
    refine ih F2 N2 D2 fun vs R h3 tk3 ra F3 N3 D3=>?_
    have e:∀ (a c:Addr×Obj),R++a::c::news=(R++[a,c])++news:=fun a c=>by simp
    rw [e] at N3 D3
    exact h _ _ h3 tk3 (.cons (List.mem_append_right _ (.head _)) (ra.mono fun q hq=>List.mem_append_left _ hq)) F3 N3 D3
section
variable {w:World}{p:Program}{loose:List Str}{mean:ExcName→Option Value}{mg mb:Str→Option Value}
   {dp un:Nat}{gd:Option (List Code)}{cn:Str}{cs:Scope}{a:Addr}{ccd:Value}{cl:List (Str×Addr)}{outer:List Env}{A₀:Around}{base h₀:Heap}{L:Addr}{m:Str→Option Value}{s:Shared}{Q E:Value→Shared→Prop}
   (B:Below A₀ base outer h₀)(F:Fr h₀ L s.heap m)(X:(K w.params).In h₀)(T:Top p loose mean mg mb h₀)(hk:cs.kind = .function)
include B F X T hk
theorem ZmG:True:=by
  k_with "spliced" =>(k_here;(with_reducible show wpAny _ _ (spliced (backTo _ (starEach (PySem.Expr.Tuple _ _ _::PySem.Expr.Tuple _ _ _::_) _))) _ _ _);k_dflt (refine' WX (n:=7) ?R ?F ?N ?D ?_;(case F=>k_asm);(case N=>k_asm);(case D=>k_asm);(case R=>(repeat' first|exact FExprs.nil|refine FExprs.cons ?_ ?_ ?_|exact SExprs.nil|refine SExprs.cons ?_|exact Nat.le_of_ble_eq_true rfl)));intro vs' R' h' tk' hra' F' N' D')
  k_with "newTuple" =>(k_here;k_dflt (refine' YL ?F ?N ?D ?_ ?z;(case F=>k_asm);(case N=>k_asm);(case D=>k_asm);(case z=>exact Nat.le_trans (Nat.le_of_eq (FRows.len hra')) (Nat.le_of_ble_eq_true rfl)));intro t' h' F' N' D')
  trivial
theorem Ze6 {news:List (Addr×Obj)}(N:News h₀ L s.heap news)(D:Za news)(hdp:dp+5<recursionLimit)(hun:un+100<cLine)
   (ret:∀ (t:Nat)(vs:List Value)(R:List (Addr×Obj))(h':Heap)(tk':Nat),FRows R vs 7→Fr h₀ L h' m→News h₀ L h' ((t,{cls :=.type "tuple",data :=.seq vs.toArray})::(R++news))→Za ((t,{cls :=.type "tuple",data :=.seq vs.toArray})::(R++news))→Q (.ref t) {s with heap:=h',toks:=tk'}) :
   wpAny (model PR w) (ktrTop dp un gd cn cs L a ccd cl outer) (call (.ref 646) []) Q E s:=by
  refine wpAny_call ?_
  k_dflt cell_enter
  k_steps
  exact ret _ _ _ _ _ hra' (by k_asm) (by k_asm) (by k_asm)
end
section
variable {w:World}{p:Program}{loose:List Str}{mean:ExcName→Option Value}{mg mb:Str→Option Value}
   {dp un:Nat}{gd:Option (List Code)}{outer:List Env}{A₀:Around}{base h₀:Heap}{L:Addr}{m:Str→Option Value}{s:Shared}{Qk:Flow→Shared→Prop}{E:Value→Shared→Prop}
   (B:Below A₀ base outer h₀)(F:Fr h₀ L s.heap m)(X:(K w.params).In h₀)(T:Top p loose mean mg mb h₀)
include B F X T
theorem ZmF:True:=by
  walk_at "G slim"
  k_with "pyIter ref" =>refine UD ?_
  k_with "eval Name" =>(k_here;k_dflt (refine' nameX_L ?F ?hv ?_ ?hk ?hx ?hd;(case hk=>exact rfl);(case hx=>exact rfl);(case hd=>decide);(case F=>k_asm);(case hv=>first|exact hl1|exact hl6)))
  k_with "call ref" =>(k_here;(with_reducible show wpAny _ _ (call (Value.ref 646) _) _ _ _);k_dflt (refine' Ze6 (B:=?zB) (F:=?zF) (X:=?zX) (T:=?zT) (hk:=?zhk) (N:=?zN) (hdp:=?zhdp) (hun:=?zhun) (D:=?zD) (ret:=?_);k_extra "z6";(case zhdp=>ktr_room);(case zhun=>ktr_units);(case zD=>ktr_unf));intro t' vs' R' h' tk' hra' F' N' D';(try dsimp only))
  k_with "exec For Tuple Call cons nil" =>(k_here;(rename Fr _ _ _ _=>lF');(with_unfolding_all refine' For_turns lF' ?_;k_whole))
  k_with "execs cons" =>((with_reducible show wpAny _ _ (execs (Stmt.Assign (PySem.Expr.Subscript _ _ _::_) _ _::_) _) _ _ _);k_dflt (refine' Zc2 (N:=?zN) (P:=?zP) (hS:=?zhS) (D:=?zD) (hm1:=?zm1) (hm2:=?zm2) (hb:=?zhb) (n1:=?zn1) (n2:=?zn2) (mi1:=?zi1) (mi2:=?zi2) (hvd:=?zv) (hfd:=?zf) (z1:=?zz1) (z2:=?zz2) (z3:=?zz3) (hl1:=?zl1) (hl2:=?zl2) (hl3:=?zl3) (hl4:=?zl4) (hl5:=?zl5) (hl6:=?zl6) (hdp:=?zdp) (hun:=?zun) ?zB ?zF ?zX ?zT ?_;(case zB=>k_asm);(case zF=>k_asm);(case zX=>k_asm);(case zT=>k_asm);(case zN=>k_asm);(case zhS=>k_asm);(case zl1=>exact hl1);(case zl2=>exact rfl);(case zl3=>exact rfl);(case zl4=>exact rfl);(case zl5=>exact rfl);(case zl6=>exact hl6);(case zn1=>k_mem);(case zn2=>k_mem);(case zP=>ktr_rel);(case zm1=>k_mem);(case zm2=>k_mem);(case zi1=>k_mem);(case zi2=>k_mem);(case zv=>with_reducible assumption);(case zf=>with_reducible assumption);(case zhb=>tb_start);(case zz1=>tb_start);(case zz2=>tb_start);(case zz3=>tb_start);(case zD=>ktr_unf);(case zdp=>ktr_room);(case zun=>ktr_units));intro ovd' ofd' kv' kf' its' fe' TX' S' h' tk' hvd' hfd' hkv' hkf' hsz' hS' pre' len' F' N' D';(try dsimp only))
  trivial
omit B F X T
noncomputable def U3 {sym sd tl an fl fn n:Nat}{jy:Hs}{self sf vd fd fx:Nat}{ovd ofd:Obj}{q1 q2 q3 q4:Int}{r1 r2 r3 r4:Tok}{fn9:Nat}{TX:List Str}{FN:List (Int×Int)}{S news rest:List (Addr×Obj)}:Prop:=∀ (B:Below A₀ base outer h₀)(F:Fr h₀ L s.heap m)(X:(K w.params).In h₀)(T:Top p loose mean mg mb h₀)(N:News h₀ L s.heap news)(P:Tk ((vd,ovd)::(fd,ofd)::(fx,W.listOf #[] 0)::S) news rest)(hS:Zh w tl an fl fn TX FN S)(D:Za news)(hm1:(sym,instObj 154 sd)∈rest)(hm2:(sd,Zq jy tl an fl fn n)∈rest)(hb:TX.length<1500)(mi1:(self,instObj 823 sf)∈rest)(mi2:(sf,dictOf [⟨q1,.str (.ofString "symbols") r1,.ref sym⟩,⟨q2,.str (.ofString "values") r2,.ref vd⟩,⟨q3,.str (.ofString "fitting") r3,.ref fd⟩,⟨q4,.str (.ofString "fixed") r4,.ref fx⟩] fn9)∈rest)(n1:(self,instObj 823 sf)∈news)(n2:(sf,dictOf [⟨q1,.str (.ofString "symbols") r1,.ref sym⟩,⟨q2,.str (.ofString "values") r2,.ref vd⟩,⟨q3,.str (.ofString "fitting") r3,.ref fd⟩,⟨q4,.str (.ofString "fixed") r4,.ref fx⟩] fn9)∈news)(hvd:ovd.IsDictOf (strKind PR w) [])(hfd:ofd.IsDictOf (strKind PR w) [])(hl1:m (Str.ofString "self")=some (.ref self))(hl6:m (Str.ofString "symbols")=some (.ref sym))(hE:PassesOwn (model PR w) (ktrTop dp un gd (Str.ofString "Flags.__init__") Yx L 785 (aR 784) [] outer) (envOf (Str.ofString "Flags.__init__") Yx L 785 (aR 784)) E)(hdp:dp+25<recursionLimit)(hun:un+250<cLine)(ret:∀ (m':Str→Option Value)(TX':List Str)(S' own:List (Addr×Obj))(h':Heap)(tk':Nat),Zh w tl an fl fn TX' FN S'→TX<+:TX'→TX'.length≤TX.length+7→Fr h₀ L h' m'→News h₀ L h' (own++(S'++rest))→Za (own++(S'++rest))→Qk .next {s with heap:=h',toks:=tk'}),
   wpAny (model PR w) (ktrTop dp un gd (Str.ofString "Flags.__init__") Yx L 785 (aR 784) [] outer) (execs (List.drop 4 Gm) (envOf (Str.ofString "Flags.__init__") Yx L 785 (aR 784))) Qk E s
noncomputable def YY (c:Zf):Prop:=@U3 (c.c 0) (c.d 0) (c.h 0) (c.k 0) (c.i 0) (c.i 1) (c.a 0) (c.a 1) (c.l 0) (c.q 0) (c.e 0) (c.j 0) (c.j 1) (c.a 2) (c.i 2) (c.f 0) (c.x 0) (c.g 0) (c.a 3) (c.a 4) (c.a 5) (c.a 6) (c.a 7) (c.a 8) (c.a 9) (c.vj 0) (c.a 10) (c.a 11) (c.a 12) (c.a 13) (c.a 14) (c.v 0) (c.v 1) (c.m 0) (c.m 1) (c.m 2) (c.m 3) (c.o 0) (c.o 1) (c.o 2) (c.o 3) (c.a 15) (c.h 1) (c.t 0) (c.b 0) (c.b 1) (c.b 2)
noncomputable def U2:Zf:=ZM Zj YY
theorem WY:YY U2:=by
  delta YY
  exists Zf.c _ _,w
  exists Zf.d _ _,p
  exists Zf.h _ _,loose,TX
  exists Zf.k _ _,mean
  exists Zf.i _ _,mg,mb,m
  exists Zf.a _ _,dp,un,L,sym,sd,tl,an,fl,fn,n,self,sf,vd,fd,fx,fn9
  exists Zf.l _ _,gd
  exists Zf.q _ _,outer
  exists Zf.e _ _,A₀
  exists Zf.j _ _,base,h₀
  exists Zf.f _ _,s
  exists Zf.x _ _,Qk
  exists Zf.g _ _,E
  exists Zf.vj _ _,jy
  exists Zf.v _ _,ovd,ofd
  exists Zf.m _ _,q1,q2,q3,q4
  exists Zf.o _ _,r1,r2,r3,r4
  exists Zf.t _ _,FN
  exists Zf.b _ _,S,news,rest
  intro B F X T N P hS D hm1 hm2 hb mi1 mi2 n1 n2 hvd hfd hl1 hl6 hE hdp hun ret
  delta Zq at *
  have N₁:=Ze N P.perm
  have D₁:=D.perm P.perm
  simp only [List.cons_append] at N₁ D₁
  clear N D P n1 n2
  k_steps
  refine Wy (fun i m' nx=>m' (Str.ofString "self")=some (.ref self)∧m' (Str.ofString "symbols")=some (.ref sym)∧∃ ovd ofd kv kf its fe TX' S',nx=(t',({cls :=.type "tuple",data :=.seq vs'.toArray}:Obj))::(R'++((vd,ovd)::(fd,ofd)::(fx,W.listOf its fe)::(S'++rest)))∧ovd.IsDictOf (strKind PR w) kv∧ofd.IsDictOf (strKind PR w) kf∧kv.length≤i∧kf.length≤i∧its.size≤i∧Zh w tl an fl fn TX' FN S'∧TX<+:TX'∧TX'.length≤TX.length+i) rfl F' N' D' (.head _) rfl rfl ⟨hl1,hl6,ovd,ofd,[],[],#[],0,TX,S,rfl,hvd,hfd,Nat.le_refl _,Nat.le_refl _,Nat.le_refl _,hS,List.prefix_refl _,Nat.le_refl _⟩ ?_ ?_
  · rintro i I oI v m₁ nx h tk hv ⟨hl1,hl6,ovd,ofd,kv,kf,its,fe,TX',S',rfl,hvd,hfd,z1,z2,z3,hS',pA,lA⟩ F1 N1 D1
    obtain ⟨r,ft,x,y,b,u1,u2,rfl,hmr⟩:=hra'.at hv
    have hi7:i<7:=by rcases Nat.lt_or_ge i 7 with q|q;exact q;rw [List.getElem?_eq_none (by rw [hra'.len];exact q)] at hv;cases hv
    clear F' N' D' N₁ D₁ hv hS
    k_steps
    rename News _ _ _ _=>nN
    have nD:=Zd nN (by ktr_unf)
    exact ⟨_,_,_,(t',({cls :=.type "tuple",data :=.seq vs'.toArray}:Obj))::(R'++((vd,ovd')::(fd,ofd')::(fx,W.listOf its' fe')::(S'++rest))),rfl,F',Zc nN (by ktr_rel),Zb nD (by ktr_rel),.head _,hl1,hl6,ovd',ofd',kv',kf',its',fe',_,S',rfl,hvd',hfd',by tb_start,by tb_start,by tb_start,hS',List.IsPrefix.trans pA pre',by tb_start⟩
  · rintro m₁ nx h tk ⟨hl1,hl6,ovd,ofd,kv,kf,its,fe,TX',S',rfl,hvd,hfd,z1,z2,z3,hS',pA,lA⟩ F1 N1 D1
    have e7:vs'.length=7:=hra'.len
    dsimp only
    k_steps
    have e:((t',({cls :=.type "tuple",data :=.seq vs'.toArray}:Obj))::(R'++[(vd,ovd),(fd,ofd),(fx,W.listOf its fe)]))++(S'++rest)=(t',({cls :=.type "tuple",data :=.seq vs'.toArray}:Obj))::(R'++((vd,ovd)::(fd,ofd)::(fx,W.listOf its fe)::(S'++rest))):=by simp
    rw [← e] at N1 D1
    exact ret _ TX' S' _ _ _ hS' pA (by tb_start) F1 N1 D1
theorem Zc3 {sym sd tl an fl fn n jy self sf vd fd fx ovd ofd q1 q2 q3 q4 r1 r2 r3 r4 fn9 TX FN S news rest}:@U3 w p loose mean mg mb dp un gd outer A₀ base h₀ L m s Qk E sym sd tl an fl fn n jy self sf vd fd fx ovd ofd q1 q2 q3 q4 r1 r2 r3 r4 fn9 TX FN S news rest:=ZN (k:=U2) rfl WY (dC |>.sc (gt dC.c [w]) |>.sd (gt dC.d [p]) |>.sh (gt dC.h [loose,TX]) |>.sk (gt dC.k [mean]) |>.si (gt dC.i [mg,mb,m]) |>.sa (gt dC.a [dp,un,L,sym,sd,tl,an,fl,fn,n,self,sf,vd,fd,fx,fn9]) |>.sl (gt dC.l [gd]) |>.sq (gt dC.q [outer]) |>.se (gt dC.e [A₀]) |>.sj (gt dC.j [base,h₀]) |>.sf (gt dC.f [s]) |>.sx (gt dC.x [Qk]) |>.sg (gt dC.g [E]) |>.svj (gt dC.vj [jy]) |>.sv (gt dC.v [ovd,ofd]) |>.sm (gt dC.m [q1,q2,q3,q4]) |>.so (gt dC.o [r1,r2,r3,r4]) |>.st (gt dC.t [FN]) |>.sb (gt dC.b [S,news,rest]))
include B F X T
end
section
variable {w:World}{p:Program}{loose:List Str}{mean:ExcName→Option Value}{mg mb:Str→Option Value}
   {dp un:Nat}{gd:Option (List Code)}{A₀:Around}{base h₀:Heap}{L:Addr}{m:Str→Option Value}{s:Shared}
   (B:Below A₀ base [] h₀)(F:Fr h₀ L s.heap m)(X:(K w.params).In h₀)(T:Top p loose mean mg mb h₀)
include B F X T
variable {Q E:Value→Shared→Prop}
theorem ZmE:True:=by
  walk_at "G slim"
  k_with "execs cons" =>((with_reducible show wpAny _ _ (execs (Stmt.For _ _ _ _ _::_) _) _ _ _);k_dflt (refine' Zc3 (N:=?zN) (P:=?zP) (hS:=?zhS) (D:=?zD) (hm1:=?zm1) (hm2:=?zm2) (hb:=?zhb) (n1:=?zn1) (n2:=?zn2) (mi1:=?zi1) (mi2:=?zi2) (hvd:=?zv) (hfd:=?zf) (hl1:=?zl1) (hl6:=?zl6) (hE:=?zE) (hdp:=?zdp) (hun:=?zun) ?zB ?zF ?zX ?zT ?_;(case zB=>k_asm);(case zF=>k_asm);(case zX=>k_asm);(case zT=>k_asm);(case zN=>k_asm);(case zhS=>with_reducible assumption);(case zl1=>exact rfl);(case zl6=>exact rfl);(case zn1=>k_mem);(case zn2=>k_mem);(case zP=>ktr_rel);(case zm1=>k_mem);(case zm2=>k_mem);(case zi1=>k_mem);(case zi2=>k_mem);(case zv=>with_reducible assumption);(case zf=>with_reducible assumption);(case zhb=>tb_start);(case zD=>ktr_unf);(case zE=>passes_own);(case zdp=>ktr_room);(case zun=>ktr_units));intro m2 TX' S' own' h' tk' hS' pre' len' F' N' D';(try dsimp only))
  trivial
omit B F X T
noncomputable def JS {sym sd tl an fl fn n:Nat}{jy:Hs}{TX:List Str}{FN:List (Int×Int)}{S news rest:List (Addr×Obj)}:Prop:=∀ (B:Below A₀ base [] h₀)(F:Fr h₀ L s.heap m)(X:(K w.params).In h₀)(T:Top p loose mean mg mb h₀)(N:News h₀ L s.heap news)(P:Tk S news rest)(hS:Zh w tl an fl fn TX FN S)(D:Za news)(hm1:(sym,instObj 154 sd)∈rest)(hm2:(sd,Zq jy tl an fl fn n)∈rest)(hb:TX.length<1000)(hdp:dp+30<recursionLimit)(hun:un+300<cLine)(ret:∀ (x:Nat)(TX':List Str)(S':List (Addr×Obj))(h':Heap)(tk':Nat),Zh w tl an fl fn TX' FN S'→TX<+:TX'→TX'.length≤TX.length+7→Fr h₀ L h' m→News h₀ L h' (S'++rest)→Za (S'++rest)→Q (.ref x) {s with heap:=h',toks:=tk'}),
   wpAny (model PR w) (ktrTop dp un gd (Str.ofString "law") Zu L 1161 (aR 1160) [(Str.ofString "hand",L+1)] []) (call (.ref 823) [.ref sym]) Q E s
noncomputable def VM (c:Zf):Prop:=@JS (c.c 0) (c.d 0) (c.h 0) (c.k 0) (c.i 0) (c.i 1) (c.a 0) (c.a 1) (c.l 0) (c.e 0) (c.j 0) (c.j 1) (c.a 2) (c.i 2) (c.f 0) (c.g 0) (c.g 1) (c.a 3) (c.a 4) (c.a 5) (c.a 6) (c.a 7) (c.a 8) (c.a 9) (c.vj 0) (c.h 1) (c.t 0) (c.b 0) (c.b 1) (c.b 2)
noncomputable def JR:Zf:=ZM Zj VM
theorem Zbt:VM JR:=by
  delta VM
  exists Zf.c _ _,w
  exists Zf.d _ _,p
  exists Zf.h _ _,loose,TX
  exists Zf.k _ _,mean
  exists Zf.i _ _,mg,mb,m
  exists Zf.a _ _,dp,un,L,sym,sd,tl,an,fl,fn,n
  exists Zf.l _ _,gd
  exists Zf.e _ _,A₀
  exists Zf.j _ _,base,h₀
  exists Zf.f _ _,s
  exists Zf.g _ _,Q,E
  exists Zf.vj _ _,jy
  exists Zf.t _ _,FN
  exists Zf.b _ _,S,news,rest
  intro B F X T N P hS D hm1 hm2 hb hdp hun ret
  delta Zq at *
  have N₁:=Ze N P.perm
  have D₁:=D.perm P.perm
  clear N D P
  k_steps
  rename News _ _ _ _=>nN
  have nD:=Zd nN (by ktr_unf)
  exact ret _ TX' S' _ _ hS' pre' len' (by k_asm) (Zc nN (by ktr_rel)) (Zb nD (by ktr_rel))
theorem Ze8 {sym sd tl an fl fn n jy TX FN S news rest}:@JS w p loose mean mg mb dp un gd A₀ base h₀ L m s Q E sym sd tl an fl fn n jy TX FN S news rest:=ZN (k:=JR) rfl Zbt (dC |>.sc (gt dC.c [w]) |>.sd (gt dC.d [p]) |>.sh (gt dC.h [loose,TX]) |>.sk (gt dC.k [mean]) |>.si (gt dC.i [mg,mb,m]) |>.sa (gt dC.a [dp,un,L,sym,sd,tl,an,fl,fn,n]) |>.sl (gt dC.l [gd]) |>.se (gt dC.e [A₀]) |>.sj (gt dC.j [base,h₀]) |>.sf (gt dC.f [s]) |>.sg (gt dC.g [Q,E]) |>.svj (gt dC.vj [jy]) |>.st (gt dC.t [FN]) |>.sb (gt dC.b [S,news,rest]))
include B F X T
end
theorem ZmD:True:=by
  walk_at "RST"
  trivial
noncomputable def Zkl:Stmt→List Stmt | .For _ _ b _ _=>b|_=>[]
@[reducible] noncomputable def Zbu:List Stmt:=by refine (?f:∀ l:List Stmt,l=Zkl (Gf We 8)→List Stmt) _ (by conv=>{rhs;whnf});exact fun l _=>l
@[reducible] noncomputable def Zfa:List Stmt:=by refine (?f:∀ l:List Stmt,l=Zkl (Gf We 7)→List Stmt) _ (by conv=>{rhs;whnf});exact fun l _=>l
theorem ZeC {prog:Program}{w:World}{A:Around}{E:Value→Shared→Prop}{s:Shared}{h₀:Heap}{L l:Addr}{news:List (Addr×Obj)}{sv:List Value}{G:Nat→Prop}{n:Nat}{k:Int}{u:Tok}{Q:Value→Shared→Prop}{value slice:PySem.Expr}(N:News h₀ L s.heap news)(hm:(l,W.listOf sv.toArray n)∈news)(hG:∀ (j:Nat)(v:Value),sv[j]? = some v→∃ (sn:Nat)(t:Tok),v = .int sn t∧G sn)(h0:0≤k)(hk:k<sv.toArray.size)(hf:k<2 ^ 63)(h:∀ (sn:Nat)(t:Tok),G sn→Q (.int sn t) s)
    (hs:subscripted slice false (.ref l) (.int k u)=operate [.ref l,.int k u] (getItem (.ref l) (.int k u)):=by with_unfolding_all rfl) (hg:∀ r,letTemporaryGo value (.ref l) r=pure ():=by intro _;with_unfolding_all rfl) :
    wpAny (model prog w) A (subscriptTail value slice (.ref l) (.int k u)) Q E s:=by
  have hk':k.toNat<sv.length:=by rw [List.size_toArray] at hk;tb_start
  obtain ⟨sn,t,e,g⟩:=hG k.toNat sv[k.toNat] (List.getElem?_eq_getElem hk')
  exact ZA N hm h0 hf rfl (by rw [List.getElem?_eq_getElem hk',e]) (h sn t g) hs hg
theorem ZmC:True:=by
  walk_at "G dct"
  walk_at "G loop"
  walk_at "G der"
  walk_at "G LawC"
  trivial
section
variable {w:World}{p:Program}{loose:List Str}{mean:ExcName→Option Value}{mg mb:Str→Option Value}
   {dp un:Nat}{gd:Option (List Code)}{A₀:Around}{base h₀:Heap}{L:Addr}{m:Str→Option Value}{s:Shared}{Qk:Flow→Shared→Prop}{E:Value→Shared→Prop}
   (B:Below A₀ base [] h₀)(F:Fr h₀ L s.heap m)(X:(K w.params).In h₀)(T:Top p loose mean mg mb h₀)
include B F X T
theorem ZmB:True:=by
  walk_at "G slim"
  k_with "eval Name" =>(k_here;k_dflt (refine' nameX_L ?F ?hv ?_ ?hk ?hx ?hd;(case hk=>exact rfl);(case hx=>exact rfl);(case hd=>decide);(case F=>k_asm);(case hv=>first|exact hl1|exact hl2|exact hl3|exact hl4|exact hl5|exact hl6|exact hl7)))
  k_with "call ref" =>(k_here;(with_reducible show wpAny _ _ (call (Value.ref 1135) _) _ _ _);k_dflt (refine' Zeh ?B ?F ?X ?T ?hk ?N ?a ?b ?k ?hd ?hu ?_;(case B=>k_asm);(case F=>k_asm);(case X=>k_asm);(case T=>k_asm);(case hk=>exact rfl);(case N=>k_asm);(case a=>exact ma1);(case b=>exact ma2);(case k=>exact kk);(case hd=>ktr_room);(case hu=>ktr_units));intro h' tk' F' N';(try dsimp only))
  trivial
theorem t2c {t1 t2:Nat}{x:Str}{d:W.Dat}{jf:Hs}{inp outp files alia actn pst f_n:Nat}{ft8:Tok}{flo flod:Nat}{nxt:Int}{wl wi gj:Nat}{owl owi oin:Obj}{kwl:List (Str×Value)}{kwi kin:List (Int×Value)}{sn pj cj pe wj we idx:Nat}{ti ti2 ta tn:Tok}{past:Bool}{act:Str}{rest:List (Addr×Obj)}
   (N:News h₀ L s.heap rest)(D:Za rest)(mf1:(flo,instObj 541 flod)∈rest)(mf2:(flod,ZL jf inp outp files alia actn pst nxt ft8 f_n)∈rest)(mw1:(wl,owl)∈rest)(hwl:owl.IsDictOf (strKind PR w) kwl)(hwk:valueAt kwl (Str.ofString "in")=some (.ref wi))(mw2:(wi,owi)∈rest)(hwi:owi.IsDictOf (intKind PR w) kwi)(hwv:valueAt kwi (sn:Int)=some (.ref wj))(mi:(inp,oin)∈rest)(hi:oin.IsDictOf (intKind PR w) kin)(hv:valueAt kin (sn:Int)=some (.ref pj))(mp:(pj,W.listOf [.ref cj,.int idx ti].toArray pe)∈rest)(mj:(wj,Zg gj idx past act ti2 ta we)∈rest)
   (ma1:W.DatIn rest (.ref t1) (.tuple [.str x,d]))(ma2:W.DatIn rest (.ref t2) (.tuple [.str x,d]))(kk:kqdOk 9 (.tuple [.str x,d])=true)(hidx:idx<1000)
   (hl1:m (Str.ofString "told")=some (.ref t1))(hl2:m (Str.ofString "due")=some (.ref t2))(hl3:m (Str.ofString "flow")=some (.ref flo))(hl4:m (Str.ofString "world")=some (.ref wl))(hl5:m (Str.ofString "spot")=some (.int sn tn))
   (hdp:dp+40<recursionLimit)(hun:un+400<cLine)
   (nx:∀ (h':Heap)(tk':Nat),Fr h₀ L h' m→News h₀ L h' rest→Qk .next {s with heap:=h',toks:=tk'}) :
   wpAny (model PR w) (ktrTop dp un gd (Str.ofString "law") Zu L 1161 (aR 1160) [(Str.ofString "hand",L+1)] []) (execs (List.drop 3 Zbu) (envX (Str.ofString "law") Zu L 1161 (aR 1160) [(Str.ofString "hand",L+1)])) Qk E s:=by
  delta ZL at *
  k_steps
  exact nx _ _ (by k_asm) (by k_asm)
theorem ZmA:True:=by
  k_with "call ref" =>(k_here;(with_reducible show wpAny _ _ (call (Value.ref 1113) _) _ _ _);k_dflt (refine' UL (B:=?zB) (F:=?zF) (X:=?zX) (T:=?zT) (hk:=?zhk) (N:=?zN) (hdp:=?zhdp) (hun:=?zhun) (hcl:=?zhcl) (hh:=?zhh) (hi:=?zhi) (hlen:=?zhlen) (P:=?zP) (D:=?zD) (q6:=?zq6) (q7:=?zq7) (ret:=?_);k_extra "z6";(case zhh=>with_reducible assumption);(case zP=>ktr_rel);(case zhcl=>k_mem);(case zhi=>first|with_reducible assumption|k_asm);(case zhlen=>first|with_reducible assumption|k_asm);(case zq6=>tb_start);(case zq7=>tb_start);(case zhdp=>ktr_room);(case zhun=>ktr_units);(case zD=>ktr_unf));intro d' t' ho' h' tk' hh' l0' l1' F' N' D';(try dsimp only))
  k_with "subscriptTail" =>(k_here;(with_reducible show wpAny _ _ (subscriptTail _ _ (Value.ref _) (Value.int _ _)) _ _ _);k_dflt (refine' ZeC ?N ?m ?g ?h0 ?hk ?hf ?_;(case N=>k_asm);(case m=>k_mem);(case g=>exact hG);(case h0=>with_reducible assumption);(case hk=>with_reducible assumption);(case hf=>tb_start));intro sn' t' hg')
  k_with "execs cons" =>((with_reducible show wpAny _ _ (execs (Stmt.If (PySem.Expr.Compare (PySem.Expr.Name (Str.ofString "deed") _) _ _ _) _ _ _::_) _) _ _ _);refine UD ?_)
  trivial
theorem t2a {hl cl' sp se ep':Nat}{ho oc:Obj}{cells sv:List Value}{ns:List Int}{G:Nat→Prop}{news rest:List (Addr×Obj)}
   (N:News h₀ L s.heap news)(P:Tk [(hl,ho)] news rest)(D:Za news)(hcl:(cl',W.listOf cells.toArray ep')∈rest)(hi:IntsAre cells ns)(hlen:ns.length<100)(hh:ZK cl' ns.length ho)(mcl:(L+1,oc)∈rest)(hoc:oc.data = .cell (some (.ref hl)))(msp:(sp,W.listOf sv.toArray se)∈rest)(hG:∀ (j:Nat)(v:Value),sv[j]? = some v→∃ (sn:Nat)(t:Tok),v = .int sn t∧G sn)(k0:0<sv.toArray.size)(k1:sv.toArray.size<100)
   (hl1:m (Str.ofString "spots")=some (.ref sp))
   (hdp:dp+40<recursionLimit)(hun:un+400<cLine)
   (nx:∀ (d:Int)(sn:Nat)(td ts:Tok)(ho':Obj)(h':Heap)(tk':Nat),Fr h₀ L h' (fun y=>if y=Str.ofString "spot" then some (.int sn ts) else if y=Str.ofString "deed" then some (.int d td) else m y)→0≤d→d<5→G sn→ZK cl' ns.length ho'→News h₀ L h' ((hl,ho')::rest)→Za ((hl,ho')::rest)→wpAny (model PR w) (ktrTop dp un gd (Str.ofString "law") Zu L 1161 (aR 1160) [(Str.ofString "hand",L+1)] []) (execs (List.drop 2 Zbu) (envX (Str.ofString "law") Zu L 1161 (aR 1160) [(Str.ofString "hand",L+1)])) Qk E {s with heap:=h',toks:=tk'}) :
   wpAny (model PR w) (ktrTop dp un gd (Str.ofString "law") Zu L 1161 (aR 1160) [(Str.ofString "hand",L+1)] []) (execs Zbu (envX (Str.ofString "law") Zu L 1161 (aR 1160) [(Str.ofString "hand",L+1)])) Qk E s:=by
  have N₁:News h₀ L s.heap ((hl,ho)::rest):=Ze N P.perm
  have D₁:Za ((hl,ho)::rest):=D.perm P.perm
  have hsm:Zl sv.toArray:=by unfold Zl;tb_start
  clear N D P
  k_steps
  rename News _ _ _ _=>nN
  have nD:=Zd nN (by ktr_unf)
  exact nx _ _ _ _ _ _ _ (by k_asm) (by assumption) (by assumption) hg' hh' (Zc nN (by ktr_rel)) (Zb nD (by ktr_rel))
end
theorem Zmz:True:=by
  walk_at "RST"
  trivial
theorem Zfd {d:Int}(h0:0≤d)(h1:d<4):d=bif decide (d<2) then bif ([0,2]:List Int).any (fun x=>x==d) then 0 else 1 else bif ([0,2]:List Int).any (fun x=>x==d) then 2 else 3:=by
  have h:d=0∨d=1∨d=2∨d=3:=by tb_start
  rcases h with rfl|rfl|rfl|rfl <;> decide
section
variable {w:World}{p:Program}{loose:List Str}{mean:ExcName→Option Value}{mg mb:Str→Option Value}
   {dp un:Nat}{gd:Option (List Code)}{cn:Str}{cs:Scope}{a:Addr}{ccd:Value}{cl:List (Str×Addr)}{A₀:Around}{base h₀:Heap}{L:Addr}{m:Str→Option Value}{s:Shared}{Q E:Value→Shared→Prop}
theorem ZbC {tg:Tgt}{chars mv:Bool}{deed:Int}{sym sd tl an fl fn n:Nat}{jy:Hs}{js:Hs}{hp stk trl s_n:Nat}{sto stod:Nat}{jf:Hs}{inp outp files alia actn pst f_n:Nat}{ft8:Tok}{flo flod:Nat}{nxt:Int}{jm:Hs}{mcode xl grd rts bgs dbs m_n:Nat}{mad mmd:Nat}{jd:Hs}{oprs flgs d_n:Nat}{dbd:Nat}{f c' pl ple tm he xe:Nat}{R TR:List (Addr×Obj)}{hv9 xv:Array Value}{t1 t2:Tok}{sn pj cj ce pe idx:Nat}{oin oac ops:Obj}{kin kac kps:List (Int×Value)}{past:Bool}{act:Str}{cv:List Value}{codes:List Int}{ta ti:Tok}{TX:List Str}{FN:List (Int×Int)}{S news rest:List (Addr×Obj)}
   (B:Below A₀ base [] h₀)(F:Fr h₀ L s.heap m)(X:(K w.params).In h₀)(T:Top p loose mean mg mb h₀)(hk:cs.kind = .function)
   (N:News h₀ L s.heap news)(D:Za news)(P:Tk ((hp,W.listOf hv9 he)::(xl,W.listOf xv xe)::(pj,W.listOf [.ref cj,.int idx ti].toArray pe)::(pst,ops)::S) news rest)(hS:Zh w tl an fl fn TX FN S)(mk1:Y3 hp)(mk2:Y3 xl)(mk3:Y3 pst)(hm1:(sym,instObj 154 sd)∈rest)(hm2:(sd,Zq jy tl an fl fn n)∈rest)(ms1:(sto,instObj 430 stod)∈rest)(ms2:(stod,Zy js sym hp stk trl s_n)∈rest)(mf1:(flo,instObj 541 flod)∈rest)(mf2:(flod,ZL jf inp outp files alia actn pst nxt ft8 f_n)∈rest)(mm1:(mad,instObj 1104 mmd)∈rest)(mm2:(mmd,ZB jm sym mcode sto xl grd rts bgs dbs m_n)∈rest)(md1:(dbs,instObj 1083 dbd)∈rest)(md2:(dbd,Z8 jd flo oprs flgs d_n)∈rest)
   (hdeed:deed=bif chars then bif mv then 0 else 1 else bif mv then 2 else 3)(hR:YC c' f deed sn R)(hTR:Yn c' TR)(hsR:∀ p∈R,p∈rest)(hsT:∀ p∈TR,p∈rest)(C:CodeHd base 1155 1151)(XB:(K w.params).In base)(TB:Top p loose mean mg mb base)
   (mi:(inp,oin)∈rest)(hi:oin.IsDictOf (intKind PR w) kin)(hv:valueAt kin (sn:Int)=some (.ref pj))
   (mc:(cj,W.listOf cv.toArray ce)∈rest)(hc:IntsAre cv codes)(hlen:codes.length<50)(hnn:∀ c∈codes,0≤c)
   (lop:(pst==sysModules)=false)(mac:(actn,oac)∈rest)(hac:oac.IsDictOf (intKind PR w) kac)(hva:valueAt kac (sn:Int)=some (.str act ta))(loa:(actn==sysModules)=false)
   (mt:(tm,ZO tg t1 t2)∈rest)(mpl:(pl,W.listOf [.ref tm].toArray ple)∈rest)(hsz:hv9.size<80000)(hx:xv.size=1∨xv.size=2)(hit:Zaf TX tg)
   (hidx:idx<900)(hps:ops.IsDictOf (intKind PR w) kps)(hpb:(valueAt kps (sn:Int)).isSome=past)(hpz:kps.length<1000)
   (hb:TX.length<20000)(hb':FN.length<20000)
   (hdp:dp+150<recursionLimit)(hun:un+1000<cLine)
   (ret:∀ (t he' xe' pe' idx':Nat)(R:List (Addr×Obj))(rd:W.Dat)(hv' xv':Array Value)(ti':Tok)(past':Bool)(kps':List (Int×Value))(ops':Obj)(TX':List Str)(FN':List (Int×Int))(S':List (Addr×Obj))(h':Heap)(tk':Nat),
      Fr h₀ L h' m →
      News h₀ L h' (R++((hp,W.listOf hv' he')::(xl,W.listOf xv' xe')::(pj,W.listOf [.ref cj,.int idx' ti'].toArray pe')::(pst,ops')::(S'++rest)))→Za (R++((hp,W.listOf hv' he')::(xl,W.listOf xv' xe')::(pj,W.listOf [.ref cj,.int idx' ti'].toArray pe')::(pst,ops')::(S'++rest))) →
      Yl TX' FN' chars mv sn past codes idx act tg rd idx' past'→W.DatIn R (.ref t) rd→hv'.size≤hv9.size+1→xv'.size=2→Zr w sn kps kps' ops' past'→Zh w tl an fl fn TX' FN' S'→TX<+:TX'→TX'.length≤TX.length+6→FN<+:FN'→FN'.length≤FN.length+3→Q (.ref t) {s with heap:=h',toks:=tk'}) :
   wpAny (model PR w) (ktrTop dp un gd cn cs L a ccd cl []) (call (.ref 1128) [.ref f,.ref mad,.ref pl]) Q E s:=by
  delta Zq Zy ZL ZB Z8 at *
  obtain ⟨doc',pm',ctv',k1',k2',mf0⟩:∃ (doc pm ctv:Value) (k1 k2:Nat),(f,fnMade (.ofString "pure") pQ pA pB pS [(.ofString "spot",k2),(.ofString "deed",k1)] doc pm c' ctv)∈rest:=by
    obtain ⟨k1,k2,doc,pm,ctv,_,_,_,_,e,_,_⟩:=id hR
    exact ⟨doc,pm,ctv,k1,k2,hsR _ (by rw [e];exact .head _)⟩
  exact Zfh B F X T hk (N:=N) (D:=D) (P:=P) (hS:=hS) (mm1:=mm1) (mm2:=mm2) (ms1:=ms1) (ms2:=ms2) (PS:=Zhn (fix:=rest) hdeed hm1 hm2 ms1 ms2 mm1 mm2 md1 md2 mf1 mf2 hR hTR hsR hsT mi hi hv mc hc hlen hnn lop mac hac hva loa) (hfix:=fun q h=>h) (C:=C) (XB:=XB) (TB:=TB) (mf0:=mf0) (mt:=mt) (mpl:=mpl) (hsz:=hsz) (hx:=hx) (hit:=hit) (hidx:=hidx) (hps:=hps) (hpb:=hpb) (hpz:=hpz) (hb:=hb) (hb':=hb') (hdp:=hdp) (hun:=hun) (ret:=ret)
end
theorem Zmy:True:=by
  walk_at "RST"
  walk_at "G dct"
  walk_at "G loop"
  walk_at "G der"
  walk_at "G LawC"
  trivial
section
variable {w:World}{p:Program}{loose:List Str}{mean:ExcName→Option Value}{mg mb:Str→Option Value}
   {dp un:Nat}{gd:Option (List Code)}{A₀:Around}{base h₀:Heap}{L:Addr}{m:Str→Option Value}{s:Shared}{Qk:Flow→Shared→Prop}{E:Value→Shared→Prop}
   (B:Below A₀ base [] h₀)(F:Fr h₀ L s.heap m)(X:(K w.params).In h₀)(T:Top p loose mean mg mb h₀)
include B F X T
theorem Zmx:True:=by
  walk_at "G slim"
  k_with "eval Name" =>(k_here;k_dflt (refine' nameX_L ?F ?hv ?_ ?hk ?hx ?hd;(case hk=>exact rfl);(case hx=>exact rfl);(case hd=>decide);(case F=>k_asm);(case hv=>first|exact hl1|exact hl2|exact hl3|exact hl4|exact hl5|exact hl6|exact hl7)))
  k_with "call ref" =>(k_here;(with_reducible show wpAny _ _ (call (Value.ref 1156) _) _ _ _);k_dflt (refine' Zb4 (B:=?zB) (F:=?zF) (X:=?zX) (T:=?zT) (hk:=?zhk) (N:=?zN) (hdp:=?zhdp) (hun:=?zhun) (hT:=?zhT) (C:=?zC) (P:=?zP) (D:=?zD) (ret:=?_);k_extra "z6";(case zhT=>with_reducible assumption);(case zP=>ktr_rel);(case zC=>first|with_reducible assumption|k_asm);(case zhdp=>ktr_room);(case zhun=>ktr_units);(case zD=>ktr_unf));intro f' c2' R' TR' h' tk' hR' hTR' F' N' D';(try dsimp only))
  k_with "call ref" =>(k_here;(with_reducible show wpAny _ _ (call (Value.ref 1128) _) _ _ _);k_dflt (refine' Zfi (B:=?zB) (F:=?zF) (X:=?zX) (T:=?zT) (hk:=?zhk) (N:=?zN) (hdp:=?zhdp) (hun:=?zhun) (mm1:=?zmm1) (mm2:=?zmm2) (md1:=?zmd1) (md2:=?zmd2) (mf1:=?zmf1) (mf2:=?zmf2) (C:=?zC) (hR:=?zhR) (hTR:=?zhTR) (hi:=?zhi) (hv:=?zhv) (hc:=?zhc) (hlen:=?zhlen) (hidx:=?zhidx) (mpl:=?zmpl) (mi:=?zmi) (mp:=?zmp) (mc:=?zmc) (D:=?zD) (hsR:=?zhsR) (hsT:=?zhsT) (ret:=?_);k_extra "z6";(case zmm1=>k_mem);(case zmm2=>k_mem);(case zmd1=>k_mem);(case zmd2=>k_mem);(case zmf1=>k_mem);(case zmf2=>k_mem);(case zmpl=>k_mem);(case zmi=>k_mem);(case zmp=>k_mem);(case zmc=>k_mem);(case zC=>first|with_reducible assumption|k_asm);(case zhR=>first|with_reducible assumption|k_asm);(case zhTR=>first|with_reducible assumption|k_asm);(case zhi=>first|with_reducible assumption|k_asm);(case zhv=>first|with_reducible assumption|k_asm);(case zhc=>first|with_reducible assumption|k_asm);(case zhlen=>first|with_reducible assumption|k_asm);(case zhidx=>tb_start);(case zhsR=>(intro q hq;k_ownIn));(case zhsT=>(intro q hq;k_ownIn));(case zhdp=>ktr_room);(case zhun=>ktr_units);(case zD=>ktr_unf));intro t1' l1' le' b' k1' h' tk' hb' F' N' D';(try dsimp only))
  k_with "execs cons" =>((with_reducible show wpAny _ _ (execs (Stmt.If (PySem.Expr.UnaryOp _ _ _) _ _ _::_) _) _ _ _);refine UD ?_)
  trivial
omit B F X T
noncomputable def Zfq {sto sym:Nat}{jf:Hs}{ft8:Tok}{inp outp files alia actn pst f_n flo flod:Nat}{nxt:Int}{jm:Hs}{mcode xl grd rts bgs dbs m_n mad mmd:Nat}{jd:Hs}{oprs flgs d_n dbd wl wi gj ge cj ce pj pe wj we sn idx:Nat}{owl owi oin:Obj}{kwl:List (Str×Value)}{kwi kin:List (Int×Value)}{gv cv:List Value}{codes:List Int}{ti ti2 ta2 tn td:Tok}{past:Bool}{act:Str}{TR news rest:List (Addr×Obj)}:Prop:=∀ (B:Below A₀ base [] h₀)(F:Fr h₀ L s.heap m)(X:(K w.params).In h₀)(T:Top p loose mean mg mb h₀)(N:News h₀ L s.heap news)(D:Za news)(P:Tk TR news rest)(hT:ZbD TR∨∃ c',Yn c' TR)(C:CodeHd base 1155 1151)(mm1:(mad,instObj 1104 mmd)∈rest)(mm2:(mmd,ZB jm sym mcode sto xl grd rts bgs dbs m_n)∈rest)(md1:(dbs,instObj 1083 dbd)∈rest)(md2:(dbd,Z8 jd flo oprs flgs d_n)∈rest)(mf1:(flo,instObj 541 flod)∈rest)(mf2:(flod,ZL jf inp outp files alia actn pst nxt ft8 f_n)∈rest)(mw1:(wl,owl)∈rest)(hwl:owl.IsDictOf (strKind PR w) kwl)(hwk:valueAt kwl (Str.ofString "in")=some (.ref wi))(mw2:(wi,owi)∈rest)(hwi:owi.IsDictOf (intKind PR w) kwi)(hwv:valueAt kwi (sn:Int)=some (.ref wj))(mi:(inp,oin)∈rest)(hi:oin.IsDictOf (intKind PR w) kin)(hv:valueAt kin (sn:Int)=some (.ref pj))(mp:(pj,W.listOf [.ref cj,.int idx ti].toArray pe)∈rest)(mj:(wj,Zg gj idx past act ti2 ta2 we)∈rest)(mc:(cj,W.listOf cv.toArray ce)∈rest)(hc:IntsAre cv codes)(mgv:(gj,W.listOf gv.toArray ge)∈rest)(hg:IntsAre gv codes)(hlen:codes.length<50)(hidx:idx<900)(hl1:m (Str.ofString "deed")=some (.int 4 td))(hl2:m (Str.ofString "m")=some (.ref mad))(hl3:m (Str.ofString "flow")=some (.ref flo))(hl4:m (Str.ofString "world")=some (.ref wl))(hl5:m (Str.ofString "spot")=some (.int sn tn))(hdp:dp+100<recursionLimit)(hun:un+800<cLine)(nx:∀ (m':Str→Option Value)(TR':List (Addr×Obj))(h':Heap)(tk':Nat),(∃ c',Yn c' TR')→(∀ z,z≠Str.ofString "due" →z≠Str.ofString "told" →m' z=m z)→Fr h₀ L h' m'→News h₀ L h' (TR'++rest)→Za (TR'++rest)→Qk .next {s with heap:=h',toks:=tk'}),
   wpAny (model PR w) (ktrTop dp un gd (Str.ofString "law") Zu L 1161 (aR 1160) [(Str.ofString "hand",L+1)] []) (execs (List.drop 2 Zbu) (envX (Str.ofString "law") Zu L 1161 (aR 1160) [(Str.ofString "hand",L+1)])) Qk E s
noncomputable def ZbS (c:Zf):Prop:=@Zfq (c.c 0) (c.d 0) (c.h 0) (c.k 0) (c.i 0) (c.i 1) (c.a 0) (c.a 1) (c.l 0) (c.e 0) (c.j 0) (c.j 1) (c.a 2) (c.i 2) (c.f 0) (c.x 0) (c.g 0) (c.a 3) (c.a 4) (c.vj 0) (c.o 0) (c.a 5) (c.a 6) (c.a 7) (c.a 8) (c.a 9) (c.a 10) (c.a 11) (c.a 12) (c.a 13) (c.m 0) (c.vj 1) (c.a 14) (c.a 15) (c.a 16) (c.a 17) (c.a 18) (c.a 19) (c.a 20) (c.a 21) (c.a 22) (c.vj 2) (c.a 23) (c.a 24) (c.a 25) (c.a 26) (c.a 27) (c.a 28) (c.a 29) (c.a 30) (c.a 31) (c.a 32) (c.a 33) (c.a 34) (c.a 35) (c.a 36) (c.a 37) (c.a 38) (c.v 0) (c.v 1) (c.v 2) (c.va 0) (c.y 0) (c.y 1) (c.u 0) (c.u 1) (c.w 0) (c.o 1) (c.o 2) (c.o 3) (c.o 4) (c.o 5) (c.z 0) (c.n 0) (c.b 0) (c.b 1) (c.b 2)
noncomputable def Zfp:Zf:=ZM Zj ZbS
theorem Zg7:ZbS Zfp:=by
  delta ZbS
  exists Zf.c _ _,w
  exists Zf.d _ _,p
  exists Zf.h _ _,loose
  exists Zf.k _ _,mean
  exists Zf.i _ _,mg,mb,m
  exists Zf.a _ _,dp,un,L,sto,sym,inp,outp,files,alia,actn,pst,f_n,flo,flod,mcode,xl,grd,rts,bgs,dbs,m_n,mad,mmd,oprs,flgs,d_n,dbd,wl,wi,gj,ge,cj,ce,pj,pe,wj,we,sn,idx
  exists Zf.l _ _,gd
  exists Zf.e _ _,A₀
  exists Zf.j _ _,base,h₀
  exists Zf.f _ _,s
  exists Zf.x _ _,Qk
  exists Zf.g _ _,E
  exists Zf.vj _ _,jf,jm,jd
  exists Zf.o _ _,ft8,ti,ti2,ta2,tn,td
  exists Zf.m _ _,nxt
  exists Zf.v _ _,owl,owi,oin
  exists Zf.va _ _,kwl
  exists Zf.y _ _,kwi,kin
  exists Zf.u _ _,gv,cv
  exists Zf.w _ _,codes
  exists Zf.z _ _,past
  exists Zf.n _ _,act
  exists Zf.b _ _,TR,news,rest
  intro B F X T N D P hT C mm1 mm2 md1 md2 mf1 mf2 mw1 hwl hwk mw2 hwi hwv mi hi hv mp mj mc hc mgv hg hlen hidx hl1 hl2 hl3 hl4 hl5 hdp hun nx
  delta ZL ZB Z8 at *
  have N₁:News h₀ L s.heap (TR++rest):=Ze N P.perm
  have D₁:Za (TR++rest):=D.perm P.perm
  have hsm:Zl gv.toArray:=by unfold Zl;rw [List.size_toArray,hg.length];tb_start
  have hsz:gv.toArray.size=codes.length:=by rw [List.size_toArray,hg.length]
  clear N D P
  k_steps
  · rename News _ _ _ _=>nN
    have nD:=Zd nN (by ktr_unf)
    have hb9:b'=true:=by rw [hb'];exact decide_eq_true (by tb_start)
    subst hb9
    exact t2c B (by k_asm) X T (N:=nN) (D:=nD) (mf1:=by k_mem) (mf2:=by k_mem) (mw1:=by k_mem) (hwl:=hwl) (hwk:=hwk) (mw2:=by k_mem) (hwi:=hwi) (hwv:=hwv) (mi:=by k_mem) (hi:=hi) (hv:=hv) (mp:=by k_mem) (mj:=by k_mem) (hl1:=by exact rfl) (hl2:=by exact rfl) (hl3:=by exact hl3) (hl4:=by exact hl4) (hl5:=by exact hl5) (ma1:=DatIn.tuple (.head _) (.cons (.str (.ofString "yes") _) (.cons (DatIn.list (.tail _ (.head _)) .nil) .nil))) (ma2:=DatIn.tuple (by k_mem) (.cons (.str _ _) (.cons (DatIn.list (by k_mem) .nil) .nil))) (kk:=YK (by decide +kernel) rfl) (hidx:=by tb_start) (hdp:=by tb_start) (hun:=by tb_start) (nx:=fun h2 tk2 F2 N2=>nx _ TR' h2 tk2 ⟨_,hTR'⟩ (fun z h1 h2=>by simp only [h1,h2,if_false]) F2 (Zc N2 (by ktr_rel)) (Zb nD (by ktr_rel)))
  · rename News _ _ _ _=>nN
    have nD:=Zd nN (by ktr_unf)
    have hb9:b'=false:=by rw [hb'];exact decide_eq_false (by tb_start)
    subst hb9
    exact t2c B (by k_asm) X T (N:=nN) (D:=nD) (mf1:=by k_mem) (mf2:=by k_mem) (mw1:=by k_mem) (hwl:=hwl) (hwk:=hwk) (mw2:=by k_mem) (hwi:=hwi) (hwv:=hwv) (mi:=by k_mem) (hi:=hi) (hv:=hv) (mp:=by k_mem) (mj:=by k_mem) (hl1:=by exact rfl) (hl2:=by exact rfl) (hl3:=by exact hl3) (hl4:=by exact hl4) (hl5:=by exact hl5) (ma1:=DatIn.tuple (.head _) (.cons (.str (.ofString "no") _) (.cons (DatIn.list (.tail _ (.head _)) .nil) .nil))) (ma2:=DatIn.tuple (by k_mem) (.cons (.str _ _) (.cons (DatIn.list (by k_mem) .nil) .nil))) (kk:=YK (by decide +kernel) rfl) (hidx:=by tb_start) (hdp:=by tb_start) (hun:=by tb_start) (nx:=fun h2 tk2 F2 N2=>nx _ TR' h2 tk2 ⟨_,hTR'⟩ (fun z h1 h2=>by simp only [h1,h2,if_false]) F2 (Zc N2 (by ktr_rel)) (Zb nD (by ktr_rel)))
theorem t2e {sto sym jf ft8 inp outp files alia actn pst f_n flo flod nxt jm mcode xl grd rts bgs dbs m_n mad mmd jd oprs flgs d_n dbd wl wi gj ge cj ce pj pe wj we sn idx owl owi oin kwl kwi kin gv cv codes ti ti2 ta2 tn td past act TR news rest}:@Zfq w p loose mean mg mb dp un gd A₀ base h₀ L m s Qk E sto sym jf ft8 inp outp files alia actn pst f_n flo flod nxt jm mcode xl grd rts bgs dbs m_n mad mmd jd oprs flgs d_n dbd wl wi gj ge cj ce pj pe wj we sn idx owl owi oin kwl kwi kin gv cv codes ti ti2 ta2 tn td past act TR news rest:=ZN (k:=Zfp) rfl Zg7 (dC |>.sc (gt dC.c [w]) |>.sd (gt dC.d [p]) |>.sh (gt dC.h [loose]) |>.sk (gt dC.k [mean]) |>.si (gt dC.i [mg,mb,m]) |>.sa (gt dC.a [dp,un,L,sto,sym,inp,outp,files,alia,actn,pst,f_n,flo,flod,mcode,xl,grd,rts,bgs,dbs,m_n,mad,mmd,oprs,flgs,d_n,dbd,wl,wi,gj,ge,cj,ce,pj,pe,wj,we,sn,idx]) |>.sl (gt dC.l [gd]) |>.se (gt dC.e [A₀]) |>.sj (gt dC.j [base,h₀]) |>.sf (gt dC.f [s]) |>.sx (gt dC.x [Qk]) |>.sg (gt dC.g [E]) |>.svj (gt dC.vj [jf,jm,jd]) |>.so (gt dC.o [ft8,ti,ti2,ta2,tn,td]) |>.sm (gt dC.m [nxt]) |>.sv (gt dC.v [owl,owi,oin]) |>.sva (gt dC.va [kwl]) |>.sy (gt dC.y [kwi,kin]) |>.su (gt dC.u [gv,cv]) |>.sw (gt dC.w [codes]) |>.sz (gt dC.z [past]) |>.sn (gt dC.n [act]) |>.sb (gt dC.b [TR,news,rest]))
include B F X T
end
theorem Zmw:True:=by
  walk_at "RST"
  walk_at "G dct"
  walk_at "G loop"
  walk_at "G der"
  walk_at "G LawC"
  trivial
theorem ZeB {w:World}{tl an fl fn:Nat}{TX:List Str}{FN:List (Int×Int)}{S:List (Addr×Obj)}(h:Zh w tl an fl fn TX FN S):TX.Nodup∧FN.Nodup:=by
  obtain ⟨_,_,_,_,_,_,_,_,_,_,_,a,_,_,_,_,b⟩:=h
  exact ⟨a,b⟩
theorem ZaA {mv:Bool}{len idx:Nat}:Zt mv len idx≤idx+1:=by unfold Zt;split <;> tb_start
theorem ZbI {TX:List Str}{FN:List (Int×Int)}{ch mv:Bool}{sn:Int}{past:Bool}{codes:List Int}{idx:Nat}{act:Str}{tg:Tgt}{rd:W.Dat}{i1:Nat}{p1:Bool}(a:Yl TX FN ch mv sn past codes idx act tg rd i1 p1):i1≤idx+1:=by
  rcases a with ⟨d,_,a⟩|⟨_,_,ha,_⟩
  · rcases a with ⟨_,e,_⟩|⟨_,_,e,_⟩
    · tb_start
    · rw [e];exact ZaA
  · rw [ha];exact ZaA
theorem Za0 {TX TX':List Str}{tg:Tgt}(h:Zaf TX tg)(p:TX<+:TX'):Zaf TX' tg:=by cases tg with|v=>exact h|a i x=>exact ⟨WI h.1 p,h.2⟩|i k=>exact h
section
variable {w:World}{p:Program}{loose:List Str}{mean:ExcName→Option Value}{mg mb:Str→Option Value}
   {dp un:Nat}{gd:Option (List Code)}{A₀:Around}{base h₀:Heap}{L:Addr}{m:Str→Option Value}{s:Shared}{Qk:Flow→Shared→Prop}{E:Value→Shared→Prop}
   (B:Below A₀ base [] h₀)(F:Fr h₀ L s.heap m)(X:(K w.params).In h₀)(T:Top p loose mean mg mb h₀)
include B F X T
theorem Zmv:True:=by
  walk_at "G slim"
  k_with "eval Name" =>(k_here;k_dflt (refine' nameX_L ?F ?hv ?_ ?hk ?hx ?hd;(case hk=>exact rfl);(case hx=>exact rfl);(case hd=>decide);(case F=>k_asm);(case hv=>first|exact hl1|exact hl2|exact hl3|exact hl4|exact hl5|exact hl6|exact hl7)))
  k_with "call ref" =>(k_here;(with_reducible show wpAny _ _ (call (Value.ref 1142) _) _ _ _);k_dflt (refine' ZbM (B:=?zB) (F:=?zF) (X:=?zX) (T:=?zT) (hk:=?zhk) (N:=?zN) (hdp:=?zhdp) (hun:=?zhun) (hh:=?zhh) (hi:=?zhi) (hlen:=?zhlen) (hS:=?zhS) (hcl:=?zhcl) (hm1:=?zhm1) (hm2:=?zhm2) (P:=?zP) (D:=?zD) (hb:=?zhb) (h0:=?zh0) (h24:=?zh24) (ret:=?_);k_extra "z6";(case zhS=>first|with_reducible assumption|k_asm);(case zhh=>with_reducible assumption);(case zP=>ktr_rel);(case zhcl=>k_mem);(case zhm1=>k_mem);(case zhm2=>k_mem);(case zhi=>first|with_reducible assumption|k_asm);(case zhlen=>first|with_reducible assumption|k_asm);(case zhb=>tb_start);(case zh0=>first|with_reducible assumption|k_asm);(case zh24=>first|with_reducible assumption|k_asm);(case zhdp=>ktr_room);(case zhun=>ktr_units);(case zD=>ktr_unf));intro tm' tg' u1' u2' ho' TX' S' h' tk' hit' hh' hS' pre' len' F' N' D';(try dsimp only))
  k_with "call ref" =>(k_here;(with_reducible show wpAny _ _ (call (Value.ref 1149) _) _ _ _);k_dflt (refine' Zet (B:=?zB) (F:=?zF) (X:=?zX) (T:=?zT) (hk:=?zhk) (N:=?zN) (hdp:=?zhdp) (hun:=?zhun) (hm1:=?zhm1) (hm2:=?zhm2) (hS:=?zhS) (hit:=?zhit) (hlen:=?zhlen) (hnn:=?zhnn) (hwl:=?zhwl) (hwk:=?zhwk) (hwi:=?zhwi) (hwv:=?zhwv) (hg:=?zhg) (mw1:=?zmw1) (mw2:=?zmw2) (mgv:=?zmgv) (P:=?zP) (D:=?zD) (hidx:=?zhidx) (hb:=?zhb) (hb':=?zhb') (ret:=?_);k_extra "z6";(case zhS=>first|with_reducible assumption|k_asm);(case zhwl=>exact hwl);(case zhwk=>exact hwk);(case zhwi=>exact hwi);(case zhwv=>exact hwv);(case zhg=>exact hg);(case zhit=>with_reducible assumption);(case zP=>ktr_rel);(case zhm1=>k_mem);(case zhm2=>k_mem);(case zmw1=>k_mem);(case zmw2=>k_mem);(case zmgv=>k_mem);(case zhlen=>first|with_reducible assumption|k_asm);(case zhnn=>first|with_reducible assumption|k_asm);(case zhidx=>tb_start);(case zhb=>tb_start);(case zhb'=>tb_start);(case zhdp=>ktr_room);(case zhun=>ktr_units);(case zD=>ktr_unf));intro t2' we' idx2' R2' rd2' ti2' past2' TX' FN' S' h' tk' F' N' D' ht2' hd2' htm' hS' pre' len' pref' lenf';(try dsimp only))
  k_with "call ref" =>(k_here;(with_reducible show wpAny _ _ (call (Value.ref 1156) _) _ _ _);k_dflt (refine' Zb4 (B:=?zB) (F:=?zF) (X:=?zX) (T:=?zT) (hk:=?zhk) (N:=?zN) (hdp:=?zhdp) (hun:=?zhun) (hT:=?zhT) (C:=?zC) (P:=?zP) (D:=?zD) (ret:=?_);k_extra "z6";(case zhT=>with_reducible assumption);(case zP=>ktr_rel);(case zC=>first|with_reducible assumption|k_asm);(case zhdp=>ktr_room);(case zhun=>ktr_units);(case zD=>ktr_unf));intro f' c2' R' TR' h' tk' hR' hTR' F' N' D';(try dsimp only))
  k_with "call ref" =>(k_here;(with_reducible show wpAny _ _ (call (Value.ref 1128) _) _ _ _);k_dflt (refine' ZbC (B:=?zB) (F:=?zF) (X:=?zX) (T:=?zT) (hk:=?zhk) (N:=?zN) (hdp:=?zhdp) (hun:=?zhun) (mk1:=?zmk1) (mk2:=?zmk2) (mk3:=?zmk3) (hit:=?zhit) (hS:=?zhS) (C:=?zC) (hR:=?zhR) (hTR:=?zhTR) (hlen:=?zhlen) (hnn:=?zhnn) (hi:=?zhi) (hv:=?zhv) (hc:=?zhc) (lop:=?zlop) (hac:=?zhac) (hva:=?zhva) (loa:=?zloa) (hx:=?zhx) (hps:=?zhps) (hpb:=?zhpb) (hdeed:=?zhdeed) (hm1:=?zhm1) (hm2:=?zhm2) (ms1:=?zms1) (ms2:=?zms2) (mf1:=?zmf1) (mf2:=?zmf2) (mm1:=?zmm1) (mm2:=?zmm2) (md1:=?zmd1) (md2:=?zmd2) (mi:=?zmi) (mc:=?zmc) (mac:=?zmac) (mt:=?zmt) (mpl:=?zmpl) (P:=?zP) (D:=?zD) (hsz:=?zhsz) (hidx:=?zhidx) (hpz:=?zhpz) (hb:=?zhb) (hb':=?zhb') (XB:=?zXB) (TB:=?zTB) (hsR:=?zhsR) (hsT:=?zhsT) (ret:=?_);k_extra "z6";(case zhS=>first|with_reducible assumption|k_asm);(case zmk1=>exact hMp);(case zmk2=>exact hMx);(case zmk3=>exact hMs);(case zhi=>exact hi);(case zhv=>exact hv);(case zhc=>exact hc);(case zhac=>exact hac);(case zhva=>exact hva);(case zhps=>exact hps);(case zhpb=>exact hpb);(case zlop=>exact lop);(case zloa=>exact loa);(case zhx=>exact hx);(case zhit=>exact Za0 hit' pre');(case zP=>ktr_rel);(case zhm1=>k_mem);(case zhm2=>k_mem);(case zms1=>k_mem);(case zms2=>k_mem);(case zmf1=>k_mem);(case zmf2=>k_mem);(case zmm1=>k_mem);(case zmm2=>k_mem);(case zmd1=>k_mem);(case zmd2=>k_mem);(case zmi=>k_mem);(case zmc=>k_mem);(case zmac=>k_mem);(case zmt=>k_mem);(case zmpl=>k_mem);(case zC=>first|with_reducible assumption|k_asm);(case zhR=>first|with_reducible assumption|k_asm);(case zhTR=>first|with_reducible assumption|k_asm);(case zhlen=>first|with_reducible assumption|k_asm);(case zhnn=>first|with_reducible assumption|k_asm);(case zhdeed=>exact hdd);(case zhsz=>tb_start);(case zhidx=>tb_start);(case zhpz=>tb_start);(case zhb=>tb_start);(case zhb'=>tb_start);(case zXB=>first|with_reducible assumption|k_asm);(case zTB=>first|with_reducible assumption|k_asm);(case zhsR=>(intro q hq;k_ownIn));(case zhsT=>(intro q hq;k_ownIn));(case zhdp=>ktr_room);(case zhun=>ktr_units);(case zD=>ktr_unf));intro t1' he' xe' pe' idx1' R1' rd1' hv1' xv1' ti1' past1' kps1' ops1' TX' FN' S' h' tk' F' N' D' ht1' hd1' hvs' hxs' hpt' hS' pre' len' pref' lenf';(try dsimp only))
  k_with "execs cons" =>((with_reducible show wpAny _ _ (execs (Stmt.If (PySem.Expr.UnaryOp _ _ _) _ _ _::_) _) _ _ _);refine UD ?_)
  trivial
omit B F X T
noncomputable def Zfo {sym sd tl an fl fn n:Nat}{jy js:Hs}{hp stk trl s_n sto stod:Nat}{jf:Hs}{ft8:Tok}{inp outp files alia actn pst f_n flo flod:Nat}{nxt:Int}{jm:Hs}{mcode xl grd rts bgs dbs m_n mad mmd:Nat}{jd:Hs}{oprs flgs d_n dbd wl wi gj ge cj ce pj pe wj we sn idx hl cl' ep' he xe:Nat}{owl owi oin oac ops ho oc:Obj}{kwl:List (Str×Value)}{kwi kin kac kps:List (Int×Value)}{gv cv cells:List Value}{hv9 xv:Array Value}{ns codes:List Int}{ti ti2 ta ta2 tn td:Tok}{past:Bool}{act:Str}{deed:Int}{TX:List Str}{FN:List (Int×Int)}{S TR news rest:List (Addr×Obj)}:Prop:=∀ (B:Below A₀ base [] h₀)(F:Fr h₀ L s.heap m)(X:(K w.params).In h₀)(T:Top p loose mean mg mb h₀)(N:News h₀ L s.heap news)(D:Za news)(P:Tk ((hl,ho)::(hp,W.listOf hv9 he)::(xl,W.listOf xv xe)::(pst,ops)::(pj,W.listOf [.ref cj,.int idx ti].toArray pe)::(wj,Zg gj idx past act ti2 ta2 we)::(S++TR)) news rest)(hT:ZbD TR∨∃ c',Yn c' TR)(C:CodeHd base 1155 1151)(XB:(K w.params).In base)(TB:Top p loose mean mg mb base)(hS:Zh w tl an fl fn TX FN S)(hm1:(sym,instObj 154 sd)∈rest)(hm2:(sd,Zq jy tl an fl fn n)∈rest)(ms1:(sto,instObj 430 stod)∈rest)(ms2:(stod,Zy js sym hp stk trl s_n)∈rest)(mm1:(mad,instObj 1104 mmd)∈rest)(mm2:(mmd,ZB jm sym mcode sto xl grd rts bgs dbs m_n)∈rest)(md1:(dbs,instObj 1083 dbd)∈rest)(md2:(dbd,Z8 jd flo oprs flgs d_n)∈rest)(mf1:(flo,instObj 541 flod)∈rest)(mf2:(flod,ZL jf inp outp files alia actn pst nxt ft8 f_n)∈rest)(mw1:(wl,owl)∈rest)(hwl:owl.IsDictOf (strKind PR w) kwl)(hwk:valueAt kwl (Str.ofString "in")=some (.ref wi))(mw2:(wi,owi)∈rest)(hwi:owi.IsDictOf (intKind PR w) kwi)(hwv:valueAt kwi (sn:Int)=some (.ref wj))(mi:(inp,oin)∈rest)(hi:oin.IsDictOf (intKind PR w) kin)(hv:valueAt kin (sn:Int)=some (.ref pj))(hcl:(cl',W.listOf cells.toArray ep')∈rest)(hi0:IntsAre cells ns)(hlen0:ns.length<100)(hh:ZK cl' ns.length ho)(mcl:(L+1,oc)∈rest)(hoc:oc.data = .cell (some (.ref hl)))(mc:(cj,W.listOf cv.toArray ce)∈rest)(hc:IntsAre cv codes)(mgv:(gj,W.listOf gv.toArray ge)∈rest)(hg:IntsAre gv codes)(hlen:codes.length<50)(hnn:∀ c∈codes,0≤c)(hidx:idx<850)(lop:(pst==sysModules)=false)(mac:(actn,oac)∈rest)(hac:oac.IsDictOf (intKind PR w) kac)(hva:valueAt kac (sn:Int)=some (.str act ta))(loa:(actn==sysModules)=false)(hsz:hv9.size<70000)(hx:xv.size=1∨xv.size=2)(hps:ops.IsDictOf (intKind PR w) kps)(hpb:(valueAt kps (sn:Int)).isSome=past)(hpz:kps.length<900)(h0:TX[0]? = some (.ofString "[]"))(h24:TX[24]? = some (.ofString "end_of_file"))(hb:TX.length<15000)(hb':FN.length<15000)(d0:0≤deed)(d4:deed<4)(hl1:m (Str.ofString "deed")=some (.int deed td))(hl2:m (Str.ofString "m")=some (.ref mad))(hl3:m (Str.ofString "flow")=some (.ref flo))(hl4:m (Str.ofString "world")=some (.ref wl))(hl5:m (Str.ofString "spot")=some (.int sn tn))(hl6:m (Str.ofString "names")=some (.ref sym))(hdp:dp+200<recursionLimit)(hun:un+1400<cLine)(nx:∀ (m':Str→Option Value)(ho' ops':Obj)(hv' xv':Array Value)(he' xe' pe' we' idx':Nat)(ti' ti2':Tok)(past':Bool)(kps':List (Int×Value))(TX':List Str)(FN':List (Int×Int))(S' TR':List (Addr×Obj))(h':Heap)(tk':Nat),ZK cl' ns.length ho'→(∃ c',Yn c' TR')→idx'≤idx+1→hv'.size≤hv9.size+1→xv'.size=2→Zr w sn kps kps' ops' past'→Zh w tl an fl fn TX' FN' S'→TX<+:TX'→TX'.length≤TX.length+20→FN'.length≤FN.length+10→(∀ z,z≠Str.ofString "due" →z≠Str.ofString "told" →z≠Str.ofString "target" →m' z=m z)→Fr h₀ L h' m' →
      News h₀ L h' ((hl,ho')::(hp,W.listOf hv' he')::(xl,W.listOf xv' xe')::(pst,ops')::(pj,W.listOf [.ref cj,.int idx' ti'].toArray pe')::(wj,Zg gj idx' past' act ti2' ta2 we')::(S'++(TR'++rest)))→Za ((hl,ho')::(hp,W.listOf hv' he')::(xl,W.listOf xv' xe')::(pst,ops')::(pj,W.listOf [.ref cj,.int idx' ti'].toArray pe')::(wj,Zg gj idx' past' act ti2' ta2 we')::(S'++(TR'++rest)))→Qk .next {s with heap:=h',toks:=tk'}),
   wpAny (model PR w) (ktrTop dp un gd (Str.ofString "law") Zu L 1161 (aR 1160) [(Str.ofString "hand",L+1)] []) (execs (List.drop 2 Zbu) (envX (Str.ofString "law") Zu L 1161 (aR 1160) [(Str.ofString "hand",L+1)])) Qk E s
noncomputable def ZbR (c:Zf):Prop:=@Zfo (c.c 0) (c.d 0) (c.h 0) (c.k 0) (c.i 0) (c.i 1) (c.a 0) (c.a 1) (c.l 0) (c.e 0) (c.j 0) (c.j 1) (c.a 2) (c.i 2) (c.f 0) (c.x 0) (c.g 0) (c.a 3) (c.a 4) (c.a 5) (c.a 6) (c.a 7) (c.a 8) (c.a 9) (c.vj 0) (c.vj 1) (c.a 10) (c.a 11) (c.a 12) (c.a 13) (c.a 14) (c.a 15) (c.vj 2) (c.o 0) (c.a 16) (c.a 17) (c.a 18) (c.a 19) (c.a 20) (c.a 21) (c.a 22) (c.a 23) (c.a 24) (c.m 0) (c.vj 3) (c.a 25) (c.a 26) (c.a 27) (c.a 28) (c.a 29) (c.a 30) (c.a 31) (c.a 32) (c.a 33) (c.vj 4) (c.a 34) (c.a 35) (c.a 36) (c.a 37) (c.a 38) (c.a 39) (c.a 40) (c.a 41) (c.a 42) (c.a 43) (c.a 44) (c.a 45) (c.a 46) (c.a 47) (c.a 48) (c.a 49) (c.a 50) (c.a 51) (c.a 52) (c.a 53) (c.a 54) (c.v 0) (c.v 1) (c.v 2) (c.v 3) (c.v 4) (c.v 5) (c.v 6) (c.va 0) (c.y 0) (c.y 1) (c.y 2) (c.y 3) (c.u 0) (c.u 1) (c.u 2) (c.vc 0) (c.vc 1) (c.w 0) (c.w 1) (c.o 1) (c.o 2) (c.o 3) (c.o 4) (c.o 5) (c.o 6) (c.z 0) (c.n 0) (c.m 1) (c.h 1) (c.t 0) (c.b 0) (c.b 1) (c.b 2) (c.b 3)
noncomputable def Zfn:Zf:=ZM Zj ZbR
theorem Zg6:ZbR Zfn:=by
  delta ZbR
  exists Zf.c _ _,w
  exists Zf.d _ _,p
  exists Zf.h _ _,loose,TX
  exists Zf.k _ _,mean
  exists Zf.i _ _,mg,mb,m
  exists Zf.a _ _,dp,un,L,sym,sd,tl,an,fl,fn,n,hp,stk,trl,s_n,sto,stod,inp,outp,files,alia,actn,pst,f_n,flo,flod,mcode,xl,grd,rts,bgs,dbs,m_n,mad,mmd,oprs,flgs,d_n,dbd,wl,wi,gj,ge,cj,ce,pj,pe,wj,we,sn,idx,hl,cl',ep',he,xe
  exists Zf.l _ _,gd
  exists Zf.e _ _,A₀
  exists Zf.j _ _,base,h₀
  exists Zf.f _ _,s
  exists Zf.x _ _,Qk
  exists Zf.g _ _,E
  exists Zf.vj _ _,jy,js,jf,jm,jd
  exists Zf.o _ _,ft8,ti,ti2,ta,ta2,tn,td
  exists Zf.m _ _,nxt,deed
  exists Zf.v _ _,owl,owi,oin,oac,ops,ho,oc
  exists Zf.va _ _,kwl
  exists Zf.y _ _,kwi,kin,kac,kps
  exists Zf.u _ _,gv,cv,cells
  exists Zf.vc _ _,hv9,xv
  exists Zf.w _ _,ns,codes
  exists Zf.z _ _,past
  exists Zf.n _ _,act
  exists Zf.t _ _,FN
  exists Zf.b _ _,S,TR,news,rest
  intro B F X T N D P hT C XB TB hS hm1 hm2 ms1 ms2 mm1 mm2 md1 md2 mf1 mf2 mw1 hwl hwk mw2 hwi hwv mi hi hv hcl hi0 hlen0 hh mcl hoc mc hc mgv hg hlen hnn hidx lop mac hac hva loa hsz hx hps hpb hpz h0 h24 hb hb' d0 d4 hl1 hl2 hl3 hl4 hl5 hl6 hdp hun nx
  delta Zq Zy ZL ZB Z8 at *
  have N₁:=Ze N P.perm
  have D₁:=D.perm P.perm
  simp only [List.cons_append,List.nil_append,List.append_assoc] at N₁ D₁
  have hdd:=Zfd d0 d4
  have hMp:Y3 hp:=trivial
  have hMx:Y3 xl:=trivial
  have hMs:Y3 pst:=trivial
  clear N D P
  k_steps
  · rename News _ _ _ _=>nN
    have nD:=Zd nN (by ktr_unf)
    have nd:=ZeB hS'
    obtain ⟨e1,e2,e3⟩:=ZbH nd.1 nd.2 ht1' (ZaZ pre' pref' ht2')
    obtain ⟨kk,x9,d9,e4⟩:=ZbG ht1'
    have hi9:=ZbI ht1'
    subst e1 e2 e3
    subst e4
    exact t2c B (by k_asm) X T (N:=nN) (D:=nD) (mf1:=by k_mem) (mf2:=by k_mem) (mw1:=by k_mem) (hwl:=hwl) (hwk:=hwk) (mw2:=by k_mem) (hwi:=hwi) (hwv:=hwv) (mi:=by k_mem) (hi:=hi) (hv:=hv) (mp:=by k_mem) (mj:=by k_mem) (hl1:=by exact rfl) (hl2:=by exact rfl) (hl3:=by exact hl3) (hl4:=by exact hl4) (hl5:=by exact hl5) (ma1:=DatIn.mono (fun q hq=>by k_ownIn) hd1') (ma2:=DatIn.mono (fun q hq=>by k_ownIn) hd2') (kk:=kk) (hidx:=by tb_start) (hdp:=by tb_start) (hun:=by tb_start)
      (nx:=fun h2 tk2 F2 N2=>nx _ ho' ops1' hv1' xv1' he' xe' pe' we' _ ti1' ti2' _ kps1' TX' FN' S' TR' h2 tk2 hh' ⟨_,hTR'⟩ hi9 hvs' hxs' hpt' hS' (List.IsPrefix.trans (by assumption) (List.IsPrefix.trans (by assumption) pre')) (by tb_start) (by tb_start) (fun z h1 h2 h3=>by simp only [h1,h2,h3,if_false]) F2 (Zc N2 (by ktr_rel)) (Zb nD (by ktr_rel)))
theorem t2t {sym sd tl an fl fn n jy js hp stk trl s_n sto stod jf ft8 inp outp files alia actn pst f_n flo flod nxt jm mcode xl grd rts bgs dbs m_n mad mmd jd oprs flgs d_n dbd wl wi gj ge cj ce pj pe wj we sn idx hl cl' ep' he xe owl owi oin oac ops ho oc kwl kwi kin kac kps gv cv cells hv9 xv ns codes ti ti2 ta ta2 tn td past act deed TX FN S TR news rest}:@Zfo w p loose mean mg mb dp un gd A₀ base h₀ L m s Qk E sym sd tl an fl fn n jy js hp stk trl s_n sto stod jf ft8 inp outp files alia actn pst f_n flo flod nxt jm mcode xl grd rts bgs dbs m_n mad mmd jd oprs flgs d_n dbd wl wi gj ge cj ce pj pe wj we sn idx hl cl' ep' he xe owl owi oin oac ops ho oc kwl kwi kin kac kps gv cv cells hv9 xv ns codes ti ti2 ta ta2 tn td past act deed TX FN S TR news rest:=ZN (k:=Zfn) rfl Zg6 (dC |>.sc (gt dC.c [w]) |>.sd (gt dC.d [p]) |>.sh (gt dC.h [loose,TX]) |>.sk (gt dC.k [mean]) |>.si (gt dC.i [mg,mb,m]) |>.sa (gt dC.a [dp,un,L,sym,sd,tl,an,fl,fn,n,hp,stk,trl,s_n,sto,stod,inp,outp,files,alia,actn,pst,f_n,flo,flod,mcode,xl,grd,rts,bgs,dbs,m_n,mad,mmd,oprs,flgs,d_n,dbd,wl,wi,gj,ge,cj,ce,pj,pe,wj,we,sn,idx,hl,cl',ep',he,xe]) |>.sl (gt dC.l [gd]) |>.se (gt dC.e [A₀]) |>.sj (gt dC.j [base,h₀]) |>.sf (gt dC.f [s]) |>.sx (gt dC.x [Qk]) |>.sg (gt dC.g [E]) |>.svj (gt dC.vj [jy,js,jf,jm,jd]) |>.so (gt dC.o [ft8,ti,ti2,ta,ta2,tn,td]) |>.sm (gt dC.m [nxt,deed]) |>.sv (gt dC.v [owl,owi,oin,oac,ops,ho,oc]) |>.sva (gt dC.va [kwl]) |>.sy (gt dC.y [kwi,kin,kac,kps]) |>.su (gt dC.u [gv,cv,cells]) |>.svc (gt dC.vc [hv9,xv]) |>.sw (gt dC.w [ns,codes]) |>.sz (gt dC.z [past]) |>.sn (gt dC.n [act]) |>.st (gt dC.t [FN]) |>.sb (gt dC.b [S,TR,news,rest]))
include B F X T
end
theorem Zmt:True:=by
  walk_at "RST"
  trivial
theorem ZbW {prog:Program}{w:World}{A:Around}{E:Value→Shared→Prop}{s:Shared}{h₀:Heap}{L l:Addr}{news:List (Addr×Obj)}{vs:List Value}{n:Nat}{k:Int}{u:Tok}{Q:Value→Shared→Prop}{value slice:PySem.Expr}(Pv:Value→Prop)(N:News h₀ L s.heap news)(hm:(l,W.listOf vs.toArray n)∈news)(h0:0≤k)(hk:k<vs.length)(hf:k<2 ^ 63)(hP:∀ x∈vs,Pv x)(h:∀ x,Pv x→Q x s)
    (hs:subscripted slice false (.ref l) (.int k u)=operate [.ref l,.int k u] (getItem (.ref l) (.int k u)):=by with_unfolding_all rfl) (hg:∀ r,letTemporaryGo value (.ref l) r=pure ():=by intro _;with_unfolding_all rfl) :
    wpAny (model prog w) A (subscriptTail value slice (.ref l) (.int k u)) Q E s:=by
  have hk':k.toNat<vs.length:=by tb_start
  exact ZA N hm h0 hf rfl (List.getElem?_eq_getElem hk') (h _ (hP _ (List.getElem_mem hk'))) hs hg
theorem ZeO {k:Nat}:0≤([97,98,233,10,1114112]:List Int).getD k 0:=by
  match k with
  | 0|1|2|3|4=>decide
  | k+5=>exact Int.le_refl 0
noncomputable def Zma (x:Value):Prop:=∃ c t,x = .int c t∧0≤c
noncomputable def Zl8 (x:Value):Prop:=∃ a t,x = .str a t
theorem Zbp {ys:List Value}{codes:List Int}{c:Int}{t:Tok}(h:IntsAre ys codes):IntsAre (ys++[.int c t]) (codes++[c]):=IntsAre.append h (.cons c t .nil)
theorem Zms:True:=by
  walk_at "G dct"
  walk_at "G loop"
  walk_at "G der"
  walk_at "G LawC"
  trivial
section
variable {w:World}{p:Program}{loose:List Str}{mean:ExcName→Option Value}{mg mb:Str→Option Value}
   {dp un:Nat}{gd:Option (List Code)}{A₀:Around}{base h₀:Heap}{L:Addr}{m:Str→Option Value}{s:Shared}{Qk:Flow→Shared→Prop}{E:Value→Shared→Prop}
   (B:Below A₀ base [] h₀)(F:Fr h₀ L s.heap m)(X:(K w.params).In h₀)(T:Top p loose mean mg mb h₀)
include B F X T
theorem Zmr:True:=by
  walk_at "G slim"
  k_with "eval Name" =>(k_here;k_dflt (refine' nameX_L ?F ?hv ?_ ?hk ?hx ?hd;(case hk=>exact rfl);(case hx=>exact rfl);(case hd=>decide);(case F=>k_asm);(case hv=>first|exact hl1|exact hl2|exact hl3|exact hl4|exact hl5|exact hl6|exact hl7)))
  k_with "call ref" =>(k_here;(with_reducible show wpAny _ _ (call (Value.ref 1113) _) _ _ _);k_dflt (refine' UL (B:=?zB) (F:=?zF) (X:=?zX) (T:=?zT) (hk:=?zhk) (N:=?zN) (hdp:=?zhdp) (hun:=?zhun) (hcl:=?zhcl) (hh:=?zhh) (hi:=?zhi) (hlen:=?zhlen) (P:=?zP) (D:=?zD) (q6:=?zq6) (q7:=?zq7) (ret:=?_);k_extra "z6";(case zhh=>with_reducible assumption);(case zP=>ktr_rel);(case zhcl=>k_mem);(case zhi=>first|with_reducible assumption|k_asm);(case zhlen=>first|with_reducible assumption|k_asm);(case zq6=>tb_start);(case zq7=>tb_start);(case zhdp=>ktr_room);(case zhun=>ktr_units);(case zD=>ktr_unf));intro d' t' ho' h' tk' hh' l0' l1' F' N' D';(try dsimp only))
  k_with "subscriptTail" =>(k_here;(with_reducible show wpAny _ _ (subscriptTail _ _ (Value.ref _) (Value.int _ _)) _ _ _);k_dflt (refine' ZbW Zma ?N ?m ?h0 ?hk ?hf ?hP ?_;(case N=>k_asm);(case m=>k_mem);(case h0=>with_reducible assumption);(case hk=>with_reducible assumption);(case hf=>tb_start);(case hP=>(repeat' first|exact List.forall_mem_nil _|refine List.forall_mem_cons.mpr ⟨⟨_,_,rfl,by decide⟩,?_⟩)));rintro x' ⟨c',t',rfl,hc'⟩)
  k_with "CompRest" =>refine UD ?_
  k_with "CompEnd" =>((with_reducible show LCg.CompEnd _ _ _ _ _ _ _ _ _ _ _ _ _ _);k_dflt (refine' Wg (all:=(I,oI)::(C,oC)::(Dd,LCg.lst ys)::(hl,ho')::rest) ?F ?N ?P ?D ?S ?_;(case F=>k_asm);(case N=>exact Zc (by k_asm) (by ktr_rel));(case P=>ktr_rel);(case D=>(rename News _ _ _ _=>nQ;exact Zb (Zd nQ (by ktr_unf)) (by ktr_rel)));(case S=>exact True.intro));intro lD')
  trivial
noncomputable def gE:Stmt→PySem.Expr | .Assign _ (.ListComp e _ _ _) _=>e|_ =>.Name (Str.ofString "") ⟨0,0,0,0⟩
noncomputable def gS:Stmt→Scope | .Assign _ (.ListComp _ _ sc _) _=>sc|_=>Zu
@[reducible] noncomputable def Zl5:PySem.Expr:=by refine (?f:∀ l:PySem.Expr,l=gE (Gf Zfa 0)→PySem.Expr) _ (by conv=>{rhs;whnf});exact fun l _=>l
@[reducible] noncomputable def Zl4:Scope:=by refine (?f:∀ l:Scope,l=gS (Gf Zfa 0)→Scope) _ (by conv=>{rhs;whnf});exact fun l _=>l
omit F in
theorem WV {hl cl' ep':Nat}{oc:Obj}{cells:List Value}{ns:List Int}{rest:List (Addr×Obj)}{P:Nat→Value→Prop}{Fin:List Value→List (Addr×Obj)→Prop}{x:Str}
   (hcl:(cl',W.listOf cells.toArray ep')∈rest)(hi:IntsAre cells ns)(hlen:ns.length<100)(mcl:(L+1,oc)∈rest)(hoc:oc.data = .cell (some (.ref hl)))
   (hdp:dp+40<recursionLimit)(hun:un+400<cLine)
   (fin:∀ ys codes ho,ZK cl' ns.length ho→IntsAre ys codes→codes.length≤10→(∀ c∈codes,0≤c)→Za ((hl,ho)::rest)→Fin ys ((hl,ho)::rest)):∀ (n i:Nat)(ys:List Value)(codes:List Int)(ho:Obj),ZK cl' ns.length ho→IntsAre ys codes→codes.length+n≤10→(∀ c∈codes,0≤c)→Za ((hl,ho)::rest) →
   LCg.CompRest PR w (ktrTop dp un gd (Str.ofString "law") Zu L 1161 (aR 1160) [(Str.ofString "hand",L+1)] []) h₀ L m (envX (Str.ofString "law") Zu L 1161 (aR 1160) [(Str.ofString "hand",L+1)]) Zl5 x Zl4 [(Str.ofString "hand",L+1)] s (fun _=>True) P Fin n i ys ((hl,ho)::rest):=by
  intro n
  induction n with
  | zero=>intro i ys codes ho hh hy hle hnn D;exact LCg.CompRest.zero (fin ys codes ho hh hy (by tb_start) hnn D)
  | succ n ih =>
    intro i ys codes ho hh hy hle hnn D
    refine LCg.CompRest.succ ?_
    intro v I oI C oC Dd m₂ h tk E' hP hC hx F1 N1 off ne
    have D1:=VO N1 off ne D
    k_steps
    exact ih (i+1) _ _ ho' hh' (Zbp hy) (by rw [List.length_append];simp only [List.length_cons,List.length_nil];tb_start) (fun c hc=>by
      rcases List.mem_append.mp hc with q|q
      · exact hnn c q
      · rw [List.mem_singleton.mp q];exact ZeO) lD'
end
theorem Zmq:True:=by
  walk_at "RST"
  trivial
theorem Za9 {prog:Program}{w:World}{A:Around}{E:Value→Shared→Prop}{s:Shared}{h₀:Heap}{L l:Addr}{news:List (Addr×Obj)}{its:Array Value}{v:Value}{n:Nat}{u:Tok}{Q:Value→Shared→Prop}{value slice:PySem.Expr}(N:News h₀ L s.heap news)(hm:(l,W.listOf (its.push v) n)∈news)(hz:its.size<1000)(h:Q v s)
    (hs:subscripted slice false (.ref l) (.int (-1) u)=operate [.ref l,.int (-1) u] (getItem (.ref l) (.int (-1) u)):=by with_unfolding_all rfl) :
    wpAny (model prog w) A (subscriptTail value slice (.ref l) (.int (-1) u)) Q E s:=by
  have hl:s.heap.IsList l (its.push v).toList.toArray:=by rw [Array.toArray_toList];exact (PySem.IsL.isList (n:=n) (N _ hm).1)
  have e:(its.push v).toList.length=its.size+1:=by simp
  refine kde_neg hl (by decide) (by decide) (j:=its.size) ?_ ?_ h hs
  · rw [e];unfold seqIndex?
    have h1:((-1:Int)+((its.size+1:Nat):Int))=(its.size:Int):=by tb_start
    simp only [h1,show ((-1:Int)<0) from by decide,if_true]
    rw [if_pos (by simp only [Bool.and_eq_true,decide_eq_true_eq];tb_start)]
    rfl
  · simp
theorem Zmp:True:=by
  walk_at "G dct"
  walk_at "G loop"
  walk_at "G der"
  walk_at "G LawC"
  trivial
section
variable {w:World}{p:Program}{loose:List Str}{mean:ExcName→Option Value}{mg mb:Str→Option Value}
   {dp un:Nat}{gd:Option (List Code)}{A₀:Around}{base h₀:Heap}{L:Addr}{m:Str→Option Value}{s:Shared}{Qk:Flow→Shared→Prop}{E:Value→Shared→Prop}
   (B:Below A₀ base [] h₀)(F:Fr h₀ L s.heap m)(X:(K w.params).In h₀)(T:Top p loose mean mg mb h₀)
include B F X T
theorem Zmo:True:=by
  walk_at "G slim"
  k_with "eval Name" =>(k_here;k_dflt (refine' nameX_L ?F ?hv ?_ ?hk ?hx ?hd;(case hk=>exact rfl);(case hx=>exact rfl);(case hd=>decide);(case F=>k_asm);(case hv=>first|exact hl1|exact hl2|exact hl3|exact hl4|exact hl5|exact hl6|exact hl7)))
  k_with "call ref" =>(k_here;(with_reducible show wpAny _ _ (call (Value.ref 1113) _) _ _ _);k_dflt (refine' UL (B:=?zB) (F:=?zF) (X:=?zX) (T:=?zT) (hk:=?zhk) (N:=?zN) (hdp:=?zhdp) (hun:=?zhun) (hcl:=?zhcl) (hh:=?zhh) (hi:=?zhi) (hlen:=?zhlen) (P:=?zP) (D:=?zD) (q6:=?zq6) (q7:=?zq7) (ret:=?_);k_extra "z6";(case zhh=>with_reducible assumption);(case zP=>ktr_rel);(case zhcl=>k_mem);(case zhi=>first|with_reducible assumption|k_asm);(case zhlen=>first|with_reducible assumption|k_asm);(case zq6=>tb_start);(case zq7=>tb_start);(case zhdp=>ktr_room);(case zhun=>ktr_units);(case zD=>ktr_unf));intro d' t' ho' h' tk' hh' l0' l1' F' N' D';(try dsimp only))
  k_with "CompSrc" =>refine UD ?_
  k_with "FinA" =>((unfold LCg.FinA);intro D' h' tk' F' N' o1';(have lD':=Ja N' o1' (by ktr_unf));clear o1';(try dsimp only))
  k_with "exec Assign cons ListComp" =>(k_here;(with_reducible show wpAny _ _ (exec (Stmt.Assign _ (Expr.ListComp _ [⟨_,_,[],_⟩] _ _) _) _) _ _ _);k_dflt (refine' LCg.Assign_ListComp_U ?F ?hLe ?hsw ?hclos ?hcell ?hkind ?hnames ?hx ?hy ?hp ?_;(case F=>k_asm);(case hLe=>rfl);(case hsw=>with_unfolding_all rfl);(case hclos=>with_unfolding_all rfl);(case hcell=>decide);(case hkind=>rfl);(case hnames=>decide);(case hx=>rfl);(case hy=>rfl);(case hp=>rfl)))
  k_with "subscriptTail" =>(k_here;(with_reducible show wpAny _ _ (subscriptTail _ _ (Value.ref _) (Value.int _ _)) _ _ _);k_dflt (refine' ZbW Zl8 ?N ?m ?h0 ?hk ?hf ?hP ?_;(case N=>k_asm);(case m=>k_mem);(case h0=>with_reducible assumption);(case hk=>(simp only [List.length_cons,List.length_nil];omega));(case hf=>tb_start);(case hP=>(repeat' first|exact List.forall_mem_nil _|refine List.forall_mem_cons.mpr ⟨⟨_,_,rfl⟩,?_⟩)));rintro x' ⟨a',t',rfl⟩)
  k_with "subscriptTail" =>(k_here;(with_reducible show wpAny _ _ (subscriptTail _ _ (Value.ref _) (Value.int (-1) _)) _ _ _);k_dflt (refine' Za9 ?N ?m ?z ?_;(case N=>k_asm);(case m=>k_mem);(case z=>(rw [List.size_toArray];omega))))
  trivial
omit B F X T
noncomputable def Jz {jf:Hs}{ft8:Tok}{inp outp files alia actn pst flo flod:Nat}{nxt:Int}{wl wi hl cl' ep' sp se i:Nat}{owl owi oin oac ho oc:Obj}{kwl:List (Str×Value)}{kwi kin kac:List (Int×Value)}{cells sv:List Value}{ns:List Int}{news rest:List (Addr×Obj)}:Prop:=∀ (B:Below A₀ base [] h₀)(F:Fr h₀ L s.heap m)(X:(K w.params).In h₀)(T:Top p loose mean mg mb h₀)(N:News h₀ L s.heap news)(D:Za news)(P:Tk [(hl,ho),(flod,ZL jf inp outp files alia actn pst nxt ft8 9),(inp,oin),(actn,oac),(sp,W.listOf sv.toArray se),(wi,owi)] news rest)(hnx:nxt=((i+1:Nat):Int))(hi9:i<10)(hsv:sv.length=i)(hcl:(cl',W.listOf cells.toArray ep')∈rest)(hi0:IntsAre cells ns)(hlen0:ns.length<100)(hh:ZK cl' ns.length ho)(mcl:(L+1,oc)∈rest)(hoc:oc.data = .cell (some (.ref hl)))(mf1:(flo,instObj 541 flod)∈rest)(mw1:(wl,owl)∈rest)(hwl:owl.IsDictOf (strKind PR w) kwl)(hwk:valueAt kwl (Str.ofString "in")=some (.ref wi))(hwi:owi.IsDictOf (intKind PR w) kwi)(hi:oin.IsDictOf (intKind PR w) kin)(hac:oac.IsDictOf (intKind PR w) kac)(hz1:kin.length≤sizeLine)(hz2:kac.length≤sizeLine)(hz3:kwi.length≤sizeLine)(hl1:m (Str.ofString "flow")=some (.ref flo))(hl2:m (Str.ofString "world")=some (.ref wl))(hl3:m (Str.ofString "spots")=some (.ref sp))(hdp:dp+60<recursionLimit)(hun:un+600<cLine)(nx:∀ (ho' oin' oac' owi':Obj)(pj cj ce pe wj gj we ge:Nat)(ti ti2 ta ta2 ts tn9:Tok)(act:Str)(ys:List Value)(codes:List Int)(m':Str→Option Value)(h':Heap)(tk':Nat),ZK cl' ns.length ho'→IntsAre ys codes→codes.length≤10→(∀ c∈codes,0≤c)→oin'.IsDictOf (intKind PR w) (stored kin nxt (.ref pj))→oac'.IsDictOf (intKind PR w) (stored kac nxt (.str act ta))→owi'.IsDictOf (intKind PR w) (stored kwi nxt (.ref wj))→Fr h₀ L h' m'→(∀ z,z≠Str.ofString "action" →z≠Str.ofString "given" →m' z=m z)→News h₀ L h' ((hl,ho')::(flod,ZL jf inp outp files alia actn pst (nxt+1) tn9 9)::(inp,oin')::(actn,oac')::(sp,W.listOf (sv.toArray.push (.int nxt ts)) (se+1))::(wi,owi')::(pj,W.listOf [.ref cj,.int 0 ti].toArray pe)::(wj,W.listOf [.ref gj,.int 0 ti2,.bool false,.str act ta2].toArray we)::(cj,W.listOf ys.toArray ce)::(gj,W.listOf ys.toArray ge)::rest)→Za ((hl,ho')::(flod,ZL jf inp outp files alia actn pst (nxt+1) tn9 9)::(inp,oin')::(actn,oac')::(sp,W.listOf (sv.toArray.push (.int nxt ts)) (se+1))::(wi,owi')::(pj,W.listOf [.ref cj,.int 0 ti].toArray pe)::(wj,W.listOf [.ref gj,.int 0 ti2,.bool false,.str act ta2].toArray we)::(cj,W.listOf ys.toArray ce)::(gj,W.listOf ys.toArray ge)::rest)→Qk .next {s with heap:=h',toks:=tk'}),
   wpAny (model PR w) (ktrTop dp un gd (Str.ofString "law") Zu L 1161 (aR 1160) [(Str.ofString "hand",L+1)] []) (execs Zfa (envX (Str.ofString "law") Zu L 1161 (aR 1160) [(Str.ofString "hand",L+1)])) Qk E s
noncomputable def Vw (c:Zf):Prop:=@Jz (c.c 0) (c.d 0) (c.h 0) (c.k 0) (c.i 0) (c.i 1) (c.a 0) (c.a 1) (c.l 0) (c.e 0) (c.j 0) (c.j 1) (c.a 2) (c.i 2) (c.f 0) (c.x 0) (c.g 0) (c.vj 0) (c.o 0) (c.a 3) (c.a 4) (c.a 5) (c.a 6) (c.a 7) (c.a 8) (c.a 9) (c.a 10) (c.m 0) (c.a 11) (c.a 12) (c.a 13) (c.a 14) (c.a 15) (c.a 16) (c.a 17) (c.a 18) (c.v 0) (c.v 1) (c.v 2) (c.v 3) (c.v 4) (c.v 5) (c.va 0) (c.y 0) (c.y 1) (c.y 2) (c.u 0) (c.u 1) (c.w 0) (c.b 0) (c.b 1)
noncomputable def Jy:Zf:=ZM Zj Vw
theorem Za6:Vw Jy:=by
  delta Vw
  exists Zf.c _ _,w
  exists Zf.d _ _,p
  exists Zf.h _ _,loose
  exists Zf.k _ _,mean
  exists Zf.i _ _,mg,mb,m
  exists Zf.a _ _,dp,un,L,inp,outp,files,alia,actn,pst,flo,flod,wl,wi,hl,cl',ep',sp,se,i
  exists Zf.l _ _,gd
  exists Zf.e _ _,A₀
  exists Zf.j _ _,base,h₀
  exists Zf.f _ _,s
  exists Zf.x _ _,Qk
  exists Zf.g _ _,E
  exists Zf.vj _ _,jf
  exists Zf.o _ _,ft8
  exists Zf.m _ _,nxt
  exists Zf.v _ _,owl,owi,oin,oac,ho,oc
  exists Zf.va _ _,kwl
  exists Zf.y _ _,kwi,kin,kac
  exists Zf.u _ _,cells,sv
  exists Zf.w _ _,ns
  exists Zf.b _ _,news,rest
  intro B F X T N D P hnx hi9 hsv hcl hi0 hlen0 hh mcl hoc mf1 mw1 hwl hwk hwi hi hac hz1 hz2 hz3 hl1 hl2 hl3 hdp hun nx
  delta ZL at *
  have N₁:=Ze N P.perm
  have D₁:=D.perm P.perm
  simp only [List.cons_append,List.nil_append] at N₁ D₁
  clear N D P
  k_steps
  refine LCg.CompSrc.range (by rfl) (by k_asm) (by k_asm) (by assumption) (by exact small_one (by tb_start) (by tb_start) (by tb_start) (by tb_start)) (rangeSize_nat _ _) (by rw [PySem.sizeLine_eq];tb_start) ?_
  intro g9
  refine WV B X T (hl:=hl) (cl':=cl') (hcl:=by k_mem) (hi:=hi0) (hlen:=hlen0) (mcl:=by k_mem) (hoc:=hoc) (hdp:=by tb_start) (hun:=by tb_start) (fin:=?_) _ 0 [] [] ho' hh' .nil (by simp only [List.length_nil];tb_start) (fun c hc=>absurd hc List.not_mem_nil) (by ktr_unf)
  intro ys codes ho2 hh2 hys hle hnn D2
  k_steps
  rename News _ _ _ _=>nN
  have nD:=Zd nN (by ktr_unf)
  exact nx ho' _ _ _ _ _ _ _ _ _ _ _ _ _ _ _ _ _ a' ys codes _ _ _ hh' hys hle hnn (by assumption) (by assumption) (by assumption) (by k_asm) (fun z h1 h2=>by simp only [h1,h2,if_false]) (Zc nN (by ktr_rel)) (Zb nD (by ktr_rel))
theorem Zez {jf ft8 inp outp files alia actn pst flo flod nxt wl wi hl cl' ep' sp se i owl owi oin oac ho oc kwl kwi kin kac cells sv ns news rest}:@Jz w p loose mean mg mb dp un gd A₀ base h₀ L m s Qk E jf ft8 inp outp files alia actn pst flo flod nxt wl wi hl cl' ep' sp se i owl owi oin oac ho oc kwl kwi kin kac cells sv ns news rest:=ZN (k:=Jy) rfl Za6 (dC |>.sc (gt dC.c [w]) |>.sd (gt dC.d [p]) |>.sh (gt dC.h [loose]) |>.sk (gt dC.k [mean]) |>.si (gt dC.i [mg,mb,m]) |>.sa (gt dC.a [dp,un,L,inp,outp,files,alia,actn,pst,flo,flod,wl,wi,hl,cl',ep',sp,se,i]) |>.sl (gt dC.l [gd]) |>.se (gt dC.e [A₀]) |>.sj (gt dC.j [base,h₀]) |>.sf (gt dC.f [s]) |>.sx (gt dC.x [Qk]) |>.sg (gt dC.g [E]) |>.svj (gt dC.vj [jf]) |>.so (gt dC.o [ft8]) |>.sm (gt dC.m [nxt]) |>.sv (gt dC.v [owl,owi,oin,oac,ho,oc]) |>.sva (gt dC.va [kwl]) |>.sy (gt dC.y [kwi,kin,kac]) |>.su (gt dC.u [cells,sv]) |>.sw (gt dC.w [ns]) |>.sb (gt dC.b [news,rest]))
include B F X T
end
section
theorem Zmn:True:=by
  walk_at "RST"
  trivial
open PyProof.Rows in
theorem Zb1 {prog:Program}{w:World}{A:Around}{E:Value→Shared→Prop}{s:Shared}{h₀:Heap}{L:Addr}{m:Str→Option Value}{news:List (Addr×Obj)}{l n:Nat}{vs:List Value}{ns:List Int}{Q:Value→Shared→Prop}(F:Fr h₀ L s.heap m)(N:News h₀ L s.heap news)
    (hh:A.handled=none) (hm:(l,W.listOf vs.toArray n)∈news) (hi:IntsAre vs ns) (hb:ns.length+1<scanBound)
    (h:∀ (d:Nat) h' (tk:Nat) o,Fr h₀ L h' m→News h₀ L h' ((d,o)::news) →
      o.SetObjOf (intKind prog w) (fun k'=>(firstMet (fun i=>ns.getD i 0) vs.length).any (· == k')) (firstMet (fun i=>ns.getD i 0) vs.length).length→Q (.ref d) {s with heap:=h',toks:=tk}) :
    wpAny (model prog w) A (call (.type "set") [.ref l]) Q E s:=by
  have hl':s.heap.IsList l vs.toArray:=(PySem.IsL.isList (n:=n) (N _ hm).1)
  have hvn:vs.length=ns.length:=IntsAre.length hi
  have hsz:vs.toArray.size=vs.length:=List.size_toArray
  refine PySem.call_set_list (items:=vs.toArray) (ns:=ns) hh hl' (by simpa using hi) (by rw [hsz,hvn];exact hb) fun h' tk hS hk=>?_
  rw [hsz] at hS
  obtain ⟨o,ho,hso⟩:=hS.objOf
  obtain ⟨oL,_,_,hL,_⟩:=F.ns
  have hLlt:L<s.heap.objs.size:=Heap.lt_size hL
  refine h s.heap.objs.size h' tk o ⟨F.ns.at' fun o' e=>hk L o' hLlt e,fun b o' e=>hk b o' (Heap.lt_size (F.keep b o' e)) (F.keep b o' e),F.above⟩ (fun p hp=>?_) hso
  rcases List.mem_cons.mp hp with rfl|hp
  · refine ⟨ho,Nat.ne_of_gt hLlt,?_⟩
    cases hq:h₀.get? s.heap.objs.size with
    | none=>rfl
    | some o'=>exact absurd (Heap.lt_size (F.keep _ _ hq)) (Nat.lt_irrefl _)
  · exact ⟨hk _ _ (Heap.lt_size (N p hp).1) (N p hp).1,(N p hp).2.1,(N p hp).2.2⟩
theorem Zmm:True:=by
  walk_at "G dct"
  walk_at "G loop"
  walk_at "G der"
  walk_at "G LawC"
  trivial
section
variable {w:World}{p:Program}{loose:List Str}{mean:ExcName→Option Value}{mg mb:Str→Option Value}
   {dp un:Nat}{gd:Option (List Code)}{A₀:Around}{base h₀:Heap}{L:Addr}{m:Str→Option Value}{s:Shared}{Qk:Flow→Shared→Prop}{E:Value→Shared→Prop}
   (B:Below A₀ base [] h₀)(F:Fr h₀ L s.heap m)(X:(K w.params).In h₀)(T:Top p loose mean mg mb h₀)
include B F X T
theorem Zml:True:=by
  walk_at "G slim"
  k_with "eval Name" =>(k_here;k_dflt (refine' nameX_L ?F ?hv ?_ ?hk ?hx ?hd;(case hk=>exact rfl);(case hx=>exact rfl);(case hd=>decide);(case F=>k_asm);(case hv=>first|exact hl1|exact hl2|exact hl3|exact hl4|exact hl5|exact hl6|exact hl7)))
  k_with "call type:set cons nil" =>(k_here;(with_reducible show wpAny _ _ (call (Value.type "set") [Value.ref _]) _ _ _);k_dflt (refine' Zb1 ?F ?N ?hh ?m ?i ?b ?_;(case F=>k_asm);(case N=>k_asm);(case hh=>exact rfl);(case m=>k_mem);(case i=>exact hI);(case b=>(unfold PySem.scanBound;omega)));intro dS' h' tk' oS' F' N' hso')
  k_with "call builtin:len" =>(k_here;(with_reducible show wpAny _ _ (call (Value.builtin _) [Value.ref _]) _ _ _);(with_reducible rename Obj.SetObjOf _ _ _ _=>hsoR);k_dflt (refine' PyProof.Rows.len_sl1 (own:=[]) ?N hsoR ?hf ?_;(case N=>k_asm);(case hf=>(rw [hfm];omega))))
  trivial
theorem Zgc {sp se:Nat}{sv:List Value}{ks:List Int}{rest:List (Addr×Obj)}
   (N:News h₀ L s.heap rest)(D:Za rest)(msp:(sp,W.listOf sv.toArray se)∈rest)(hI:IntsAre sv ks)(hfm:(PyProof.Rows.firstMet (fun i=>ks.getD i 0) sv.length).length=ks.length)(hlen:ks.length<50)
   (hl1:m (Str.ofString "spots")=some (.ref sp))
   (hdp:dp+60<recursionLimit)(hun:un+600<cLine)
   (nx:∀ (m':Str→Option Value)(h':Heap)(tk':Nat),Fr h₀ L h' m'→News h₀ L h' rest→Qk (.ret (.bool true)) {s with heap:=h',toks:=tk'}) :
   wpAny (model PR w) (ktrTop dp un gd (Str.ofString "law") Zu L 1161 (aR 1160) [(Str.ofString "hand",L+1)] []) (execs (List.drop 9 We) (envX (Str.ofString "law") Zu L 1161 (aR 1160) [(Str.ofString "hand",L+1)])) Qk E s:=by
  have hsm:Zl sv.toArray:=by unfold Zl;rw [List.size_toArray,hI.length];tb_start
  have e9:((((PyProof.Rows.firstMet (fun i=>ks.getD i 0) sv.length).length:Nat):Int)==((sv.toArray.size:Nat):Int))=true:=by
    rw [hfm,List.size_toArray,hI.length];exact beq_self_eq_true _
  k_steps
  rw [e9]
  exact nx _ _ _ (by k_asm) (Zc (by k_asm) (by ktr_rel))
end
end
theorem Zmk:True:=by
  walk_at "RST"
  trivial
noncomputable def SR.mut (r:SR):List (Addr×Obj):=[(r.pj,W.listOf [.ref r.cj,.int r.idx r.ti].toArray r.pe),(r.wj,Zg r.gj r.idx r.past r.act r.ti2 r.ta2 r.we)]
noncomputable def SR.Ok (kin kac kwi kps:List (Int×Value))(G:List (Addr×Obj))(i:Nat)(r:SR):Prop :=
  IntsAre r.cv r.codes∧IntsAre r.gv r.codes∧r.codes.length≤10∧(∀ c∈r.codes,0≤c)∧(r.cj,W.listOf r.cv.toArray r.ce)∈G∧(r.gj,W.listOf r.gv.toArray r.ge)∈G ∧
  valueAt kin (r.sn:Int)=some (.ref r.pj)∧valueAt kac (r.sn:Int)=some (.str r.act r.ta)∧valueAt kwi (r.sn:Int)=some (.ref r.wj)∧(valueAt kps (r.sn:Int)).isSome=r.past∧r.idx≤i
noncomputable def ZbE (sym flo mad wl sp:Nat)(m:Str→Option Value):Prop :=
  m (Str.ofString "names")=some (.ref sym)∧m (Str.ofString "flow")=some (.ref flo)∧m (Str.ofString "m")=some (.ref mad)∧m (Str.ofString "world")=some (.ref wl)∧m (Str.ofString "spots")=some (.ref sp)
noncomputable def J2 (w:World)(tl an fl fn hl cl' len hp xl pst:Nat)(kin kac kwi:List (Int×Value))(G:List (Addr×Obj))(sns:List Nat)(sym flo mad wl sp:Nat)(i:Nat)(m:Str→Option Value)(nx:List (Addr×Obj)):Prop :=
  ∃ (σ:List SR) (ho ops:Obj) (hv xv:Array Value) (he xe:Nat) (kps:List (Int×Value)) (TX:List Str) (FN:List (Int×Int)) (S TR:List (Addr×Obj)),
    nx=(hl,ho)::(hp,W.listOf hv he)::(xl,W.listOf xv xe)::(pst,ops)::(S++(TR++(σ.flatMap SR.mut++G)))∧ZK cl' len ho∧Zh w tl an fl fn TX FN S∧(ZbD TR∨∃ c',Yn c' TR)∧ops.IsDictOf (intKind PR w) kps ∧
    σ.map SR.sn=sns∧(∀ r∈σ,r.Ok kin kac kwi kps G i)∧hv.size≤i∧(xv.size=1∨xv.size=2)∧kps.length≤i∧TX.length≤200+20 * i∧FN.length≤200+10 * i∧ZJ<+:TX∧ZbE sym flo mad wl sp m
theorem Z5 (a:List SR)(r:SR)(b:List SR)(G:List (Addr×Obj)):(a++r::b).flatMap SR.mut++G=a.flatMap SR.mut++((r.pj,W.listOf [.ref r.cj,.int r.idx r.ti].toArray r.pe)::(r.wj,Zg r.gj r.idx r.past r.act r.ti2 r.ta2 r.we)::(b.flatMap SR.mut++G)):=by
  simp [SR.mut]
theorem Gg {sym flo mad wl sp:Nat}{m m':Str→Option Value}(h:ZbE sym flo mad wl sp m)(e:∀ z∈([Str.ofString "names",Str.ofString "flow",Str.ofString "m",Str.ofString "world",Str.ofString "spots"]:List Str),m' z=m z):ZbE sym flo mad wl sp m' :=
  ⟨(e _ (.head _)).trans h.1,(e _ (.tail _ (.head _))).trans h.2.1,(e _ (.tail _ (.tail _ (.head _)))).trans h.2.2.1,(e _ (.tail _ (.tail _ (.tail _ (.head _))))).trans h.2.2.2.1,(e _ (.tail _ (.tail _ (.tail _ (.tail _ (.head _)))))).trans h.2.2.2.2⟩
noncomputable def ZnX:List Str:=["names","flow","m","world","spots"].map Str.ofString
theorem Zcj {z:Str}(h:z∈([Str.ofString "names",Str.ofString "flow",Str.ofString "m",Str.ofString "world",Str.ofString "spots"]:List Str)):z≠Str.ofString "due" :=fun e=>absurd (e ▸ h) (by decide)
theorem Zay {z:Str}(h:z∈([Str.ofString "names",Str.ofString "flow",Str.ofString "m",Str.ofString "world",Str.ofString "spots"]:List Str)):z≠Str.ofString "told" :=fun e=>absurd (e ▸ h) (by decide)
theorem Zbj {z:Str}(h:z∈([Str.ofString "names",Str.ofString "flow",Str.ofString "m",Str.ofString "world",Str.ofString "spots"]:List Str)):z≠Str.ofString "target" :=fun e=>absurd (e ▸ h) (by decide)
theorem ZfY {z:Str}{m:Str→Option Value}{v1 v2 v3:Option Value}(h:z∈([Str.ofString "names",Str.ofString "flow",Str.ofString "m",Str.ofString "world",Str.ofString "spots"]:List Str)):(if z=Str.ofString "spot" then v1 else if z=Str.ofString "deed" then v2 else if z=Str.ofString "_" then v3 else m z)=m z:=by
  have n1:z≠Str.ofString "spot" :=fun e=>absurd (e ▸ h) (by decide)
  have n2:z≠Str.ofString "deed" :=fun e=>absurd (e ▸ h) (by decide)
  have n3:z≠Str.ofString "_" :=fun e=>absurd (e ▸ h) (by decide)
  rw [if_neg n1,if_neg n2,if_neg n3]
theorem Zee {TX:List Str}(h:ZJ<+:TX):TX[0]? = some (.ofString "[]")∧TX[24]? = some (.ofString "end_of_file"):=⟨WI (l:=ZJ) rfl h,WI (l:=ZJ) rfl h⟩
noncomputable def SR.Ok.up_S {kin kac kwi kps:List (Int×Value)}{G:List (Addr×Obj)}{i:Nat}{r:SR}:Prop:=∀ (h:r.Ok kin kac kwi kps G i),
   r.Ok kin kac kwi kps G (i+1)
noncomputable def SR.Ok.up_C (c:Zf):Prop:=@SR.Ok.up_S (c.y 0) (c.y 1) (c.y 2) (c.y 3) (c.b 0) (c.a 0) (c.vg 0)
noncomputable def SR.Ok.up_g:Zf:=ZM Zj SR.Ok.up_C
theorem SR.Ok.up_p:SR.Ok.up_C SR.Ok.up_g:=by
  delta SR.Ok.up_C
  exists Zf.y _ _,kin,kac,kwi,kps
  exists Zf.b _ _,G
  exists Zf.a _ _,i
  exists Zf.vg _ _,r
  intro h
  obtain ⟨a1,a2,a3,a4,a5,a6,a7,a8,a9,a10,a11⟩:=h
  exact ⟨a1,a2,a3,a4,a5,a6,a7,a8,a9,a10,by tb_start⟩
theorem SR.Ok.up {kin kac kwi kps G i r}:@SR.Ok.up_S kin kac kwi kps G i r:=ZN (k:=SR.Ok.up_g) rfl SR.Ok.up_p (dC |>.sy (gt dC.y [kin,kac,kwi,kps]) |>.sb (gt dC.b [G]) |>.sa (gt dC.a [i]) |>.svg (gt dC.vg [r]))
noncomputable def SR.Ok.past_S {kin kac kwi kps kps':List (Int×Value)}{G:List (Addr×Obj)}{i:Nat}{r:SR}:Prop:=∀ (h:r.Ok kin kac kwi kps G i)(e:valueAt kps' (r.sn:Int)=valueAt kps (r.sn:Int)),
   r.Ok kin kac kwi kps' G (i+1)
noncomputable def SR.Ok.past_C (c:Zf):Prop:=@SR.Ok.past_S (c.y 0) (c.y 1) (c.y 2) (c.y 3) (c.y 4) (c.b 0) (c.a 0) (c.vg 0)
noncomputable def SR.Ok.past_g:Zf:=ZM Zj SR.Ok.past_C
theorem SR.Ok.past_p:SR.Ok.past_C SR.Ok.past_g:=by
  delta SR.Ok.past_C
  exists Zf.y _ _,kin,kac,kwi,kps,kps'
  exists Zf.b _ _,G
  exists Zf.a _ _,i
  exists Zf.vg _ _,r
  intro h e
  obtain ⟨a1,a2,a3,a4,a5,a6,a7,a8,a9,a10,a11⟩:=h
  exact ⟨a1,a2,a3,a4,a5,a6,a7,a8,a9,by rw [e];exact a10,by tb_start⟩
theorem SR.Ok.past {kin kac kwi kps kps' G i r}:@SR.Ok.past_S kin kac kwi kps kps' G i r:=ZN (k:=SR.Ok.past_g) rfl SR.Ok.past_p (dC |>.sy (gt dC.y [kin,kac,kwi,kps,kps']) |>.sb (gt dC.b [G]) |>.sa (gt dC.a [i]) |>.svg (gt dC.vg [r]))
theorem Zmj:True:=by
  walk_at "G slim"
  walk_at "G dct"
  walk_at "G loop"
  walk_at "G der"
  walk_at "G LawC"
  trivial
section
variable {w:World}{p:Program}{loose:List Str}{mean:ExcName→Option Value}{mg mb:Str→Option Value}
   {dp un:Nat}{gd:Option (List Code)}{A₀:Around}{base h₀:Heap}{L:Addr}{s:Shared}{Q:Flow→Shared→Prop}{E:Value→Shared→Prop}
noncomputable def Zai {sym sd tl an fl fn n:Nat}{jy js:Hs}{hp stk trl s_n sto stod:Nat}{jf:Hs}{ft8:Tok}{inp outp files alia actn pst f_n flo flod:Nat}{nxt:Int}{jm:Hs}{mcode xl grd rts bgs dbs m_n mad mmd:Nat}{jd:Hs}{oprs flgs d_n dbd wl wi hl cl' ep' sp se I i:Nat}{owl owi oin oac oc oI:Obj}{kwl:List (Str×Value)}{kwi kin kac:List (Int×Value)}{cells sv:List Value}{ns:List Int}{sns:List Nat}{v:Value}{m₁:Str→Option Value}{G nx:List (Addr×Obj)}:Prop:=∀ (B:Below A₀ base [] h₀)(F:Fr h₀ L s.heap (fun y=>if y=Str.ofString "_" then some v else m₁ y))(X:(K w.params).In h₀)(T:Top p loose mean mg mb h₀)(N:News h₀ L s.heap ((I,oI)::nx))(D:Za ((I,oI)::nx))(C:CodeHd base 1155 1151)(XB:(K w.params).In base)(TB:Top p loose mean mg mb base)(hm1:(sym,instObj 154 sd)∈G)(hm2:(sd,Zq jy tl an fl fn n)∈G)(ms1:(sto,instObj 430 stod)∈G)(ms2:(stod,Zy js sym hp stk trl s_n)∈G)(mm1:(mad,instObj 1104 mmd)∈G)(mm2:(mmd,ZB jm sym mcode sto xl grd rts bgs dbs m_n)∈G)(md1:(dbs,instObj 1083 dbd)∈G)(md2:(dbd,Z8 jd flo oprs flgs d_n)∈G)(mf1:(flo,instObj 541 flod)∈G)(mf2:(flod,ZL jf inp outp files alia actn pst nxt ft8 f_n)∈G)(mw1:(wl,owl)∈G)(hwl:owl.IsDictOf (strKind PR w) kwl)(hwk:valueAt kwl (Str.ofString "in")=some (.ref wi))(mw2:(wi,owi)∈G)(hwi:owi.IsDictOf (intKind PR w) kwi)(mi:(inp,oin)∈G)(hi:oin.IsDictOf (intKind PR w) kin)(hcl:(cl',W.listOf cells.toArray ep')∈G)(hi0:IntsAre cells ns)(hlen0:ns.length<100)(mcl:(L+1,oc)∈G)(hoc:oc.data = .cell (some (.ref hl)))(lop:(pst==sysModules)=false)(mac:(actn,oac)∈G)(hac:oac.IsDictOf (intKind PR w) kac)(loa:(actn==sysModules)=false)(msp:(sp,W.listOf sv.toArray se)∈G)(hsv:∀ (j:Nat)(v:Value),sv[j]? = some v→∃ (sn:Nat)(t:Tok),v = .int sn t∧sn∈sns)(kz0:0<sv.toArray.size)(kz1:sv.toArray.size<100)(hnd:sns.Nodup)(hdp:dp+250<recursionLimit)(hun:un+1600<cLine)(i14:i<14)(hJ:J2 w tl an fl fn hl cl' ns.length hp xl pst kin kac kwi G sns sym flo mad wl sp i m₁ nx),
   wpAny (model PR w) (ktrTop dp un gd (Str.ofString "law") Zu L 1161 (aR 1160) [(Str.ofString "hand",L+1)] []) (execs Zbu (envX (Str.ofString "law") Zu L 1161 (aR 1160) [(Str.ofString "hand",L+1)])) (Wv h₀ L I oI (J2 w tl an fl fn hl cl' ns.length hp xl pst kin kac kwi G sns sym flo mad wl sp (i+1)) s Q) E s
noncomputable def J6 (c:Zf):Prop:=@Zai (c.c 0) (c.d 0) (c.h 0) (c.k 0) (c.i 0) (c.i 1) (c.a 0) (c.a 1) (c.l 0) (c.e 0) (c.j 0) (c.j 1) (c.a 2) (c.f 0) (c.x 0) (c.g 0) (c.a 3) (c.a 4) (c.a 5) (c.a 6) (c.a 7) (c.a 8) (c.a 9) (c.vj 0) (c.vj 1) (c.a 10) (c.a 11) (c.a 12) (c.a 13) (c.a 14) (c.a 15) (c.vj 2) (c.o 0) (c.a 16) (c.a 17) (c.a 18) (c.a 19) (c.a 20) (c.a 21) (c.a 22) (c.a 23) (c.a 24) (c.m 0) (c.vj 3) (c.a 25) (c.a 26) (c.a 27) (c.a 28) (c.a 29) (c.a 30) (c.a 31) (c.a 32) (c.a 33) (c.vj 4) (c.a 34) (c.a 35) (c.a 36) (c.a 37) (c.a 38) (c.a 39) (c.a 40) (c.a 41) (c.a 42) (c.a 43) (c.a 44) (c.a 45) (c.a 46) (c.v 0) (c.v 1) (c.v 2) (c.v 3) (c.v 4) (c.v 5) (c.va 0) (c.y 0) (c.y 1) (c.y 2) (c.u 0) (c.u 1) (c.w 0) (c.vi 0) (c.p 0) (c.i 2) (c.b 0) (c.b 1)
noncomputable def Zah:Zf:=ZM Zj J6
theorem Zen:J6 Zah:=by
  delta J6
  exists Zf.c _ _,w
  exists Zf.d _ _,p
  exists Zf.h _ _,loose
  exists Zf.k _ _,mean
  exists Zf.i _ _,mg,mb,m₁
  exists Zf.a _ _,dp,un,L,sym,sd,tl,an,fl,fn,n,hp,stk,trl,s_n,sto,stod,inp,outp,files,alia,actn,pst,f_n,flo,flod,mcode,xl,grd,rts,bgs,dbs,m_n,mad,mmd,oprs,flgs,d_n,dbd,wl,wi,hl,cl',ep',sp,se,I,i
  exists Zf.l _ _,gd
  exists Zf.e _ _,A₀
  exists Zf.j _ _,base,h₀
  exists Zf.f _ _,s
  exists Zf.x _ _,Q
  exists Zf.g _ _,E
  exists Zf.vj _ _,jy,js,jf,jm,jd
  exists Zf.o _ _,ft8
  exists Zf.m _ _,nxt
  exists Zf.v _ _,owl,owi,oin,oac,oc,oI
  exists Zf.va _ _,kwl
  exists Zf.y _ _,kwi,kin,kac
  exists Zf.u _ _,cells,sv
  exists Zf.w _ _,ns
  exists Zf.vi _ _,sns
  exists Zf.p _ _,v
  exists Zf.b _ _,G,nx
  intro B F X T N D C XB TB hm1 hm2 ms1 ms2 mm1 mm2 md1 md2 mf1 mf2 mw1 hwl hwk mw2 hwi mi hi hcl hi0 hlen0 mcl hoc lop mac hac loa msp hsv kz0 kz1 hnd hdp hun i14 hJ
  delta Zq Zy ZL ZB Z8 at *
  obtain ⟨σ,ho,ops,hv,xv,he,xe,kps,TX,FN,S,TR,rfl,hh,hS,hT,hps,hsn,hok,b1,b2,b3,b4,b5,hpA,hloc⟩:=hJ
  have hm:∀ q∈G,q∈(I,oI)::(hp,W.listOf hv he)::(xl,W.listOf xv xe)::(pst,ops)::(S++(TR++(σ.flatMap SR.mut++G))):=fun q hq =>.tail _ (.tail _ (.tail _ (.tail _ (List.mem_append_right _ (List.mem_append_right _ (List.mem_append_right _ hq))))))
  refine t2a (G:=fun sn=>∃ r∈σ,r.sn=sn) B F X T (N:=N) (P:=by ktr_rel) (D:=D) (hcl:=hm _ hcl) (hi:=hi0) (hlen:=hlen0) (hh:=hh) (mcl:=hm _ mcl) (hoc:=hoc) (msp:=hm _ msp) (hG:=?_) (k0:=kz0) (k1:=kz1) (hl1:=hloc.2.2.2.2) (hdp:=by tb_start) (hun:=by tb_start) (nx:=?_)
  · intro j v9 e9
    obtain ⟨sn,t,e,h⟩:=hsv j v9 e9
    rw [← hsn] at h
    obtain ⟨r,hr,e2⟩:=List.mem_map.mp h
    exact ⟨sn,t,e,r,hr,e2⟩
  · rintro d sn td ts ho' h' tk' F' d0 d5 ⟨r,hr,rfl⟩ hh' N' D'
    obtain ⟨σ1,σ2,rfl⟩:=List.append_of_mem hr
    obtain ⟨a1,a2,a3,a4,a5,a6,a7,a8,a9,a10,a11⟩:=hok r hr
    rw [Z5] at N' D'
    clear hm
    have hm:∀ q∈G,q∈(I,oI)::((σ1.flatMap SR.mut)++((σ2.flatMap SR.mut)++G)):=fun q hq =>.tail _ (List.mem_append_right _ (List.mem_append_right _ hq))
    by_cases d4:d=4
    · subst d4
      have hm2:∀ q∈G,q∈(hl,ho')::(I,oI)::(hp,W.listOf hv he)::(xl,W.listOf xv xe)::(pst,ops)::(S++(σ1.flatMap SR.mut++((r.pj,W.listOf [.ref r.cj,.int r.idx r.ti].toArray r.pe)::(r.wj,Zg r.gj r.idx r.past r.act r.ti2 r.ta2 r.we)::(σ2.flatMap SR.mut++G)))):=fun q hq =>.tail _ (.tail _ (.tail _ (.tail _ (.tail _ (List.mem_append_right _ (List.mem_append_right _ (.tail _ (.tail _ (List.mem_append_right _ hq)))))))))
      have hmp:(r.pj,W.listOf [.ref r.cj,.int r.idx r.ti].toArray r.pe)∈(hl,ho')::(I,oI)::(hp,W.listOf hv he)::(xl,W.listOf xv xe)::(pst,ops)::(S++(σ1.flatMap SR.mut++((r.pj,W.listOf [.ref r.cj,.int r.idx r.ti].toArray r.pe)::(r.wj,Zg r.gj r.idx r.past r.act r.ti2 r.ta2 r.we)::(σ2.flatMap SR.mut++G)))) :=.tail _ (.tail _ (.tail _ (.tail _ (.tail _ (List.mem_append_right _ (List.mem_append_right _ (.head _)))))))
      have hmj:(r.wj,Zg r.gj r.idx r.past r.act r.ti2 r.ta2 r.we)∈(hl,ho')::(I,oI)::(hp,W.listOf hv he)::(xl,W.listOf xv xe)::(pst,ops)::(S++(σ1.flatMap SR.mut++((r.pj,W.listOf [.ref r.cj,.int r.idx r.ti].toArray r.pe)::(r.wj,Zg r.gj r.idx r.past r.act r.ti2 r.ta2 r.we)::(σ2.flatMap SR.mut++G)))) :=.tail _ (.tail _ (.tail _ (.tail _ (.tail _ (List.mem_append_right _ (List.mem_append_right _ (.tail _ (.head _))))))))
      refine t2e B F' X T (N:=N') (D:=D') (P:=by ktr_rel) (hT:=hT) (C:=C) (mm1:=hm2 _ mm1) (mm2:=hm2 _ mm2) (md1:=hm2 _ md1) (md2:=hm2 _ md2) (mf1:=hm2 _ mf1) (mf2:=hm2 _ mf2) (mw1:=hm2 _ mw1) (hwl:=hwl) (hwk:=hwk) (mw2:=hm2 _ mw2) (hwi:=hwi) (hwv:=a9) (mi:=hm2 _ mi) (hi:=hi) (hv:=a7) (mp:=hmp) (mj:=hmj) (mc:=hm2 _ a5) (hc:=a1) (mgv:=hm2 _ a6) (hg:=a2) (hlen:=by tb_start) (hidx:=by tb_start) (hl1:=by exact rfl) (hl2:=hloc.2.2.1) (hl3:=hloc.2.1) (hl4:=hloc.2.2.2.1) (hl5:=by exact rfl) (hdp:=by tb_start) (hun:=by tb_start) (nx:=?_)
      intro m' TR' h2 tk2 hT' hz F2 N2 D2
      refine ⟨h2,tk2,m',(hl,ho')::(hp,W.listOf hv he)::(xl,W.listOf xv xe)::(pst,ops)::(S++(TR'++((σ1++r::σ2).flatMap SR.mut++G))),rfl,F2,?_,?_,_,ho',ops,hv,xv,he,xe,kps,TX,FN,S,TR',rfl,hh',hS,.inr hT',hps,hsn,fun q hq=>(hok q hq).up,by tb_start,b2,by tb_start,by tb_start,by tb_start,hpA,Gg hloc (fun z hz1=>by rw [hz z (Zcj hz1) (Zay hz1)];exact ZfY hz1)⟩
      · rw [Z5];exact Zc N2 (by ktr_rel)
      · rw [Z5];exact Zb D2 (by ktr_rel)
    · have hq:=Zee hpA
      have hm3:=hm
      refine t2t B F' X T (N:=N') (D:=D') (P:=by ktr_rel) (hT:=hT) (C:=C) (XB:=XB) (TB:=TB) (hS:=hS) (hm1:=hm _ hm1) (hm2:=hm _ hm2) (ms1:=hm _ ms1) (ms2:=hm _ ms2) (mm1:=hm _ mm1) (mm2:=hm _ mm2) (md1:=hm _ md1) (md2:=hm _ md2) (mf1:=hm _ mf1) (mf2:=hm _ mf2) (mw1:=hm _ mw1) (hwl:=hwl) (hwk:=hwk) (mw2:=hm _ mw2) (hwi:=hwi) (hwv:=a9) (mi:=hm _ mi) (hi:=hi) (hv:=a7) (hcl:=hm _ hcl) (hi0:=hi0) (hlen0:=hlen0) (hh:=hh') (mcl:=hm _ mcl) (hoc:=hoc) (mc:=hm _ a5) (hc:=a1) (mgv:=hm _ a6) (hg:=a2) (hlen:=by tb_start) (hnn:=a4) (hidx:=by tb_start) (lop:=lop) (mac:=hm _ mac) (hac:=hac) (hva:=a8) (loa:=loa) (hsz:=by tb_start) (hx:=b2) (hps:=hps) (hpb:=a10) (hpz:=by tb_start) (h0:=hq.1) (h24:=hq.2) (hb:=by tb_start) (hb':=by tb_start) (d0:=d0) (d4:=by tb_start) (hl1:=by exact rfl) (hl2:=hloc.2.2.1) (hl3:=hloc.2.1) (hl4:=hloc.2.2.2.1) (hl5:=by exact rfl) (hl6:=hloc.1) (hdp:=by tb_start) (hun:=by tb_start) (nx:=?_)
      intro m' ho2 ops' hv' xv' he' xe' pe' we' idx' ti' ti2' past' kps' TX' FN' S' TR' h2 tk2 hh2 hT' c1 c2 c3 hpt hS' c4 c5 c6 hz F2 N2 D2
      have e1:(σ1++r::σ2).map SR.sn=(σ1++({r with idx:=idx',past:=past',pe:=pe',we:=we',ti:=ti',ti2:=ti2'}:SR)::σ2).map SR.sn:=by simp
      have hnd2:((σ1++r::σ2).map SR.sn).Nodup:=by rw [hsn];exact hnd
      have hne:∀ q∈σ1++σ2,q.sn≠r.sn:=fun q hq e=>by
        have:=(List.perm_middle (a:=r) (l₁:=σ1) (l₂:=σ2)).map SR.sn
        have h9:=this.nodup_iff.mp hnd2
        rw [List.map_cons] at h9
        exact (List.nodup_cons.mp h9).1 (List.mem_map.mpr ⟨q,hq,e⟩)
      refine ⟨h2,tk2,m',(hl,ho2)::(hp,W.listOf hv' he')::(xl,W.listOf xv' xe')::(pst,ops')::(S'++(TR'++((σ1++({r with idx:=idx',past:=past',pe:=pe',we:=we',ti:=ti',ti2:=ti2'}:SR)::σ2).flatMap SR.mut++G))),rfl,F2,?_,?_,_,ho2,ops',hv',xv',he',xe',kps',TX',FN',S',TR',rfl,hh2,hS',.inr hT',hpt.1,e1.symm.trans hsn,?_,by tb_start,.inr c3,Nat.le_trans hpt.2.2.2 (by tb_start),by tb_start,by tb_start,List.IsPrefix.trans hpA c4,Gg hloc (fun z hz1=>by rw [hz z (Zcj hz1) (Zay hz1) (Zbj hz1)];exact ZfY hz1)⟩
      · rw [Z5];exact Zc N2 (by ktr_rel)
      · rw [Z5];exact Zb D2 (by ktr_rel)
      · intro q hq9
        have hold:∀ q∈σ1++σ2,q.Ok kin kac kwi kps' G (i+1):=fun q hq=>by
          refine (hok q ?_).past (hpt.2.2.1 _ (fun e=>hne q hq (by tb_start)))
          rcases List.mem_append.mp hq with z|z
          · exact List.mem_append_left _ z
          · exact List.mem_append_right _ (.tail _ z)
        rcases List.mem_append.mp hq9 with z|z
        · exact hold q (List.mem_append_left _ z)
        · rcases List.mem_cons.mp z with rfl|z
          · exact ⟨a1,a2,a3,a4,a5,a6,a7,a8,a9,hpt.2.1,by show idx'≤i+1;tb_start⟩
          · exact hold q (List.mem_append_right _ z)
theorem Zg0 {sym sd tl an fl fn n jy js hp stk trl s_n sto stod jf ft8 inp outp files alia actn pst f_n flo flod nxt jm mcode xl grd rts bgs dbs m_n mad mmd jd oprs flgs d_n dbd wl wi hl cl' ep' sp se I i owl owi oin oac oc oI kwl kwi kin kac cells sv ns sns v m₁ G nx}:@Zai w p loose mean mg mb dp un gd A₀ base h₀ L s Q E sym sd tl an fl fn n jy js hp stk trl s_n sto stod jf ft8 inp outp files alia actn pst f_n flo flod nxt jm mcode xl grd rts bgs dbs m_n mad mmd jd oprs flgs d_n dbd wl wi hl cl' ep' sp se I i owl owi oin oac oc oI kwl kwi kin kac cells sv ns sns v m₁ G nx:=ZN (k:=Zah) rfl Zen (dC |>.sc (gt dC.c [w]) |>.sd (gt dC.d [p]) |>.sh (gt dC.h [loose]) |>.sk (gt dC.k [mean]) |>.si (gt dC.i [mg,mb,m₁]) |>.sa (gt dC.a [dp,un,L,sym,sd,tl,an,fl,fn,n,hp,stk,trl,s_n,sto,stod,inp,outp,files,alia,actn,pst,f_n,flo,flod,mcode,xl,grd,rts,bgs,dbs,m_n,mad,mmd,oprs,flgs,d_n,dbd,wl,wi,hl,cl',ep',sp,se,I,i]) |>.sl (gt dC.l [gd]) |>.se (gt dC.e [A₀]) |>.sj (gt dC.j [base,h₀]) |>.sf (gt dC.f [s]) |>.sx (gt dC.x [Q]) |>.sg (gt dC.g [E]) |>.svj (gt dC.vj [jy,js,jf,jm,jd]) |>.so (gt dC.o [ft8]) |>.sm (gt dC.m [nxt]) |>.sv (gt dC.v [owl,owi,oin,oac,oc,oI]) |>.sva (gt dC.va [kwl]) |>.sy (gt dC.y [kwi,kin,kac]) |>.su (gt dC.u [cells,sv]) |>.sw (gt dC.w [ns]) |>.svi (gt dC.vi [sns]) |>.sp (gt dC.p [v]) |>.sb (gt dC.b [G,nx]))
end
theorem Zmi:True:=by
  walk_at "RST"
  trivial
noncomputable def SR.fix (r:SR):List (Addr×Obj):=[(r.cj,W.listOf r.cv.toArray r.ce),(r.gj,W.listOf r.gv.toArray r.ge)]
noncomputable def SR.Ok1 (kin kac kwi:List (Int×Value))(r:SR):Prop :=
  IntsAre r.cv r.codes∧IntsAre r.gv r.codes∧r.codes.length≤10∧(∀ c∈r.codes,0≤c) ∧
  valueAt kin (r.sn:Int)=some (.ref r.pj)∧valueAt kac (r.sn:Int)=some (.str r.act r.ta)∧valueAt kwi (r.sn:Int)=some (.ref r.wj)∧r.past=false∧r.idx=0
noncomputable def Ym (i:Nat):List Nat:=(List.range i).map (· + 1)
noncomputable def J1 (w:World)(hl cl' len flod inp actn sp wi:Nat)(fld:Int→Tok→Obj)(G1:List (Addr×Obj))(sym flo mad wl:Nat)(i:Nat)(m:Str→Option Value)(nx:List (Addr×Obj)):Prop :=
  ∃ (σ:List SR) (ho oin oac owi:Obj) (kin kac kwi:List (Int×Value)) (sv:List Value) (se:Nat) (tn9:Tok),
    nx=(hl,ho)::(flod,fld ((i+1:Nat):Int) tn9)::(inp,oin)::(actn,oac)::(sp,W.listOf sv.toArray se)::(wi,owi)::(σ.flatMap SR.mut++(σ.flatMap SR.fix++G1))∧ZK cl' len ho ∧
    oin.IsDictOf (intKind PR w) kin∧oac.IsDictOf (intKind PR w) kac∧owi.IsDictOf (intKind PR w) kwi∧kin.length≤i+1∧kac.length≤i∧kwi.length≤i ∧
    σ.map SR.sn=Ym i∧(∀ r∈σ,r.Ok1 kin kac kwi)∧IntsAre sv ((Ym i).map (fun (n:Nat)=>(n:Int)))∧ZbE sym flo mad wl sp m
theorem UE (i:Nat):Ym (i+1)=Ym i++[i+1]:=by unfold Ym;rw [List.range_succ,List.map_append];rfl
theorem ZbX {i n:Nat}(h:n∈Ym i):n<i+1:=by
  obtain ⟨k,hk,rfl⟩:=List.mem_map.mp h
  have:=List.mem_range.mp hk
  tb_start
theorem Gb (i:Nat):(Ym i).length=i:=by unfold Ym;rw [List.length_map,List.length_range]
theorem Zbb (i:Nat):(Ym i).Nodup:=by
  induction i with
  | zero=>exact List.nodup_nil
  | succ i ih =>
    rw [UE]
    exact List.nodup_append.mpr ⟨ih,List.nodup_cons.mpr ⟨List.not_mem_nil,List.nodup_nil⟩,fun a ha b hb e=>by
      rw [List.mem_singleton.mp hb] at e
      have:=ZbX ha
      omega⟩
theorem SR.Ok1.up {kin kac kwi:List (Int×Value)}{r:SR}{n:Int}{v1 v2 v3:Value}(h:r.Ok1 kin kac kwi)(hn:(r.sn:Int)≠n):r.Ok1 (stored kin n v1) (stored kac n v2) (stored kwi n v3):=by
  obtain ⟨a1,a2,a3,a4,a5,a6,a7,a8,a9⟩:=h
  exact ⟨a1,a2,a3,a4,by rw [Zm,if_neg hn];exact a5,by rw [Zm,if_neg hn];exact a6,by rw [Zm,if_neg hn];exact a7,a8,a9⟩
theorem Zcm {z:Str}{m:Str→Option Value}{v3:Option Value}(h:z∈([Str.ofString "names",Str.ofString "flow",Str.ofString "m",Str.ofString "world",Str.ofString "spots"]:List Str)):z≠Str.ofString "action" ∧z≠Str.ofString "given" ∧(if z=Str.ofString "_" then v3 else m z)=m z :=
  ⟨fun e=>absurd (e ▸ h) (by decide),fun e=>absurd (e ▸ h) (by decide),if_neg fun e=>absurd (e ▸ h) (by decide)⟩
theorem Zmh:True:=by
  walk_at "G slim"
  walk_at "G dct"
  walk_at "G loop"
  walk_at "G der"
  walk_at "G LawC"
  trivial
section
variable {w:World}{p:Program}{loose:List Str}{mean:ExcName→Option Value}{mg mb:Str→Option Value}
   {dp un:Nat}{gd:Option (List Code)}{A₀:Around}{base h₀:Heap}{L:Addr}{s:Shared}{Q:Flow→Shared→Prop}{E:Value→Shared→Prop}
noncomputable def Zak {jf:Hs}{inp outp files alia actn pst flo flod sym mad wl wi hl cl' ep' sp I i:Nat}{owl oc oI:Obj}{kwl:List (Str×Value)}{cells:List Value}{ns:List Int}{v:Value}{m₁:Str→Option Value}{G1 nx:List (Addr×Obj)}:Prop:=∀ (B:Below A₀ base [] h₀)(F:Fr h₀ L s.heap (fun y=>if y=Str.ofString "_" then some v else m₁ y))(X:(K w.params).In h₀)(T:Top p loose mean mg mb h₀)(N:News h₀ L s.heap ((I,oI)::nx))(D:Za ((I,oI)::nx))(mf1:(flo,instObj 541 flod)∈G1)(mw1:(wl,owl)∈G1)(hwl:owl.IsDictOf (strKind PR w) kwl)(hwk:valueAt kwl (Str.ofString "in")=some (.ref wi))(hcl:(cl',W.listOf cells.toArray ep')∈G1)(hi0:IntsAre cells ns)(hlen0:ns.length<100)(mcl:(L+1,oc)∈G1)(hoc:oc.data = .cell (some (.ref hl)))(hdp:dp+250<recursionLimit)(hun:un+1600<cLine)(i9:i<10)(hJ:J1 w hl cl' ns.length flod inp actn sp wi (fun (nn:Int)(tt:Tok)=>ZL jf inp outp files alia actn pst nn tt 9) G1 sym flo mad wl i m₁ nx),
   wpAny (model PR w) (ktrTop dp un gd (Str.ofString "law") Zu L 1161 (aR 1160) [(Str.ofString "hand",L+1)] []) (execs Zfa (envX (Str.ofString "law") Zu L 1161 (aR 1160) [(Str.ofString "hand",L+1)])) (Wv h₀ L I oI (J1 w hl cl' ns.length flod inp actn sp wi (fun (nn:Int) (tt:Tok)=>ZL jf inp outp files alia actn pst nn tt 9) G1 sym flo mad wl (i+1)) s Q) E s
noncomputable def J7 (c:Zf):Prop:=@Zak (c.c 0) (c.d 0) (c.h 0) (c.k 0) (c.i 0) (c.i 1) (c.a 0) (c.a 1) (c.l 0) (c.e 0) (c.j 0) (c.j 1) (c.a 2) (c.f 0) (c.x 0) (c.g 0) (c.vj 0) (c.a 3) (c.a 4) (c.a 5) (c.a 6) (c.a 7) (c.a 8) (c.a 9) (c.a 10) (c.a 11) (c.a 12) (c.a 13) (c.a 14) (c.a 15) (c.a 16) (c.a 17) (c.a 18) (c.a 19) (c.a 20) (c.v 0) (c.v 1) (c.v 2) (c.va 0) (c.u 0) (c.w 0) (c.p 0) (c.i 2) (c.b 0) (c.b 1)
noncomputable def Zaj:Zf:=ZM Zj J7
theorem Zeo:J7 Zaj:=by
  delta J7
  exists Zf.c _ _,w
  exists Zf.d _ _,p
  exists Zf.h _ _,loose
  exists Zf.k _ _,mean
  exists Zf.i _ _,mg,mb,m₁
  exists Zf.a _ _,dp,un,L,inp,outp,files,alia,actn,pst,flo,flod,sym,mad,wl,wi,hl,cl',ep',sp,I,i
  exists Zf.l _ _,gd
  exists Zf.e _ _,A₀
  exists Zf.j _ _,base,h₀
  exists Zf.f _ _,s
  exists Zf.x _ _,Q
  exists Zf.g _ _,E
  exists Zf.vj _ _,jf
  exists Zf.v _ _,owl,oc,oI
  exists Zf.va _ _,kwl
  exists Zf.u _ _,cells
  exists Zf.w _ _,ns
  exists Zf.p _ _,v
  exists Zf.b _ _,G1,nx
  intro B F X T N D mf1 mw1 hwl hwk hcl hi0 hlen0 mcl hoc hdp hun i9 hJ
  delta ZL at *
  obtain ⟨σ,ho,oin,oac,owi,kin,kac,kwi,sv,se,tn9,rfl,hh,hi,hac,hwi,b1,b2,b3,hsn,hok,hI,hloc⟩:=hJ
  have hm:∀ q∈G1,q∈(I,oI)::(σ.flatMap SR.mut++(σ.flatMap SR.fix++G1)):=fun q hq =>.tail _ (List.mem_append_right _ (List.mem_append_right _ hq))
  have hz:∀ n:Nat,n≤20→n≤sizeLine:=fun n h=>by rw [PySem.sizeLine_eq];tb_start
  have hsvl:sv.length=i:=by rw [hI.length,List.length_map,Gb]
  refine Zez B F X T (N:=N) (D:=D) (P:=by ktr_rel) (hnx:=rfl) (hi9:=i9) (hsv:=hsvl) (hcl:=hm _ hcl) (hi0:=hi0) (hlen0:=hlen0) (hh:=hh) (mcl:=hm _ mcl) (hoc:=hoc) (mf1:=hm _ mf1) (mw1:=hm _ mw1) (hwl:=hwl) (hwk:=hwk) (hwi:=hwi) (hi:=hi) (hac:=hac) (hz1:=hz _ (by tb_start)) (hz2:=hz _ (by tb_start)) (hz3:=hz _ (by tb_start)) (hl1:=hloc.2.1) (hl2:=hloc.2.2.2.1) (hl3:=hloc.2.2.2.2) (hdp:=by tb_start) (hun:=by tb_start) (nx:=?_)
  intro ho' oin' oac' owi' pj cj ce pe wj gj we ge ti ti2 ta ta2 ts tn' act ys codes m' h' tk' hh' hys hcl9 hnn d1 d2 d3 F' hz' N' D'
  have hlt:∀ r∈σ,(r.sn:Int)≠((i+1:Nat):Int):=fun r hr e=>by
    have:=ZbX (hsn ▸ List.mem_map.mpr ⟨r,hr,rfl⟩)
    tb_start
  let r':SR:={sn:=i+1,pj:=pj,cj:=cj,pe:=pe,ce:=ce,wj:=wj,gj:=gj,we:=we,ge:=ge,idx:=0,ti:=ti,ti2:=ti2,ta:=ta,ta2:=ta2,past:=false,act:=act,codes:=codes,cv:=ys,gv:=ys}
  have em:(σ++[r']).flatMap SR.mut++((σ++[r']).flatMap SR.fix++G1)=σ.flatMap SR.mut++((pj,W.listOf [.ref cj,.int ((0:Nat):Int) ti].toArray pe)::(wj,Zg gj 0 false act ti2 ta2 we)::(σ.flatMap SR.fix++((cj,W.listOf ys.toArray ce)::(gj,W.listOf ys.toArray ge)::G1))):=by
    simp [SR.mut,SR.fix,r']
  have es:sv.toArray.push (Value.int ((i+1:Nat):Int) ts)=(sv++[Value.int ((i+1:Nat):Int) ts]).toArray:=by simp
  have ei:(((i+1:Nat):Int)+1)=((i+1+1:Nat):Int):=by tb_start
  rw [es,ei] at N' D'
  generalize σ.flatMap SR.mut=MM at N' D' em
  generalize σ.flatMap SR.fix=FF at N' D' em
  refine ⟨h',tk',m',_,rfl,F',?_,?_,σ++[r'],ho',oin',oac',owi',_,_,_,sv++[Value.int ((i+1:Nat):Int) ts],se+1,tn',rfl,hh',d1,d2,d3,?_,?_,?_,?_,?_,?_,Gg hloc (fun z hz1=>by rw [hz' z (Zcm (m:=m₁) (v3:=none) hz1).1 (Zcm (m:=m₁) (v3:=none) hz1).2.1];exact (Zcm hz1).2.2)⟩
  · rw [em];exact Zc N' (by ktr_rel)
  · rw [em];exact Zb D' (by ktr_rel)
  · exact Nat.le_trans (Yb _ _ _) (by tb_start)
  · exact Nat.le_trans (Yb _ _ _) (by tb_start)
  · exact Nat.le_trans (Yb _ _ _) (by tb_start)
  · rw [List.map_append,hsn,UE];rfl
  · intro q hq
    rcases List.mem_append.mp hq with z|z
    · exact (hok q z).up (hlt q z)
    · rw [List.mem_singleton.mp z]
      exact ⟨hys,hys,hcl9,hnn,by show valueAt _ ((i+1:Nat):Int)=_;rw [Zm,if_pos rfl],by show valueAt _ ((i+1:Nat):Int)=_;rw [Zm,if_pos rfl],by show valueAt _ ((i+1:Nat):Int)=_;rw [Zm,if_pos rfl],rfl,rfl⟩
  · rw [UE,List.map_append]
    exact IntsAre.append hI (.cons _ ts .nil)
theorem Zg1 {jf inp outp files alia actn pst flo flod sym mad wl wi hl cl' ep' sp I i owl oc oI kwl cells ns v m₁ G1 nx}:@Zak w p loose mean mg mb dp un gd A₀ base h₀ L s Q E jf inp outp files alia actn pst flo flod sym mad wl wi hl cl' ep' sp I i owl oc oI kwl cells ns v m₁ G1 nx:=ZN (k:=Zaj) rfl Zeo (dC |>.sc (gt dC.c [w]) |>.sd (gt dC.d [p]) |>.sh (gt dC.h [loose]) |>.sk (gt dC.k [mean]) |>.si (gt dC.i [mg,mb,m₁]) |>.sa (gt dC.a [dp,un,L,inp,outp,files,alia,actn,pst,flo,flod,sym,mad,wl,wi,hl,cl',ep',sp,I,i]) |>.sl (gt dC.l [gd]) |>.se (gt dC.e [A₀]) |>.sj (gt dC.j [base,h₀]) |>.sf (gt dC.f [s]) |>.sx (gt dC.x [Q]) |>.sg (gt dC.g [E]) |>.svj (gt dC.vj [jf]) |>.sv (gt dC.v [owl,oc,oI]) |>.sva (gt dC.va [kwl]) |>.su (gt dC.u [cells]) |>.sw (gt dC.w [ns]) |>.sp (gt dC.p [v]) |>.sb (gt dC.b [G1,nx]))
end
theorem Zmg:True:=by
  walk_at "RST"
  trivial
theorem Zkm {n:Nat}(h1:0<n)(h2:n≤3):(PyProof.Rows.firstMet (fun i=>((Ym n).map (fun (n:Nat)=>(n:Int))).getD i 0) n).length=((Ym n).map (fun (n:Nat)=>(n:Int))).length:=by
  have h:n=1∨n=2∨n=3:=by tb_start
  rcases h with rfl|rfl|rfl <;> decide
theorem ZeS {sv:List Value}{l:List Nat}(h:IntsAre sv (l.map (fun (n:Nat)=>(n:Int)))):∀ (j:Nat)(v:Value),sv[j]? = some v→∃ (sn:Nat)(t:Tok),v = .int sn t∧sn∈l:=by
  intro j v e
  have hj:j<sv.length:=by rcases Nat.lt_or_ge j sv.length with q|q;exact q;rw [List.getElem?_eq_none q] at e;cases e
  have hl:=h.length
  rw [List.length_map] at hl
  have hj2:j<l.length:=by tb_start
  obtain ⟨t,ht⟩:=h.get j (l[j]:Int) (by rw [List.getElem?_map,List.getElem?_eq_getElem hj2];rfl)
  rw [e] at ht
  exact ⟨l[j],t,Option.some.inj ht,List.getElem_mem hj2⟩
theorem Zgb {a b c d:Addr×Obj}{S TR r:List (Addr×Obj)}(h:ZbD TR∨∃ c',Yn c' TR):∃ ps,((1151:Nat),tabObj ps)∈a::b::c::d::(S++(TR++r)):=by
  have h2:∃ ps,((1151:Nat),tabObj ps)∈TR:=by
    rcases h with rfl|⟨c',oc,vs,t,rfl,_⟩
    · exact ⟨_,.head _⟩
    · exact ⟨_,.head _⟩
  exact h2.elim fun ps h3=>⟨ps,.tail _ (.tail _ (.tail _ (.tail _ (List.mem_append_right _ (List.mem_append_left _ h3)))))⟩
theorem ZjD:ZbD [(1151,tabObj #[])]:=rfl
theorem ZgA {w:World}{o:Obj}(h:o.IsDictOf (intKind PR w) []):o.IsDictOf (intKind PR w) []:=h
theorem Zmf:True:=by
  walk_at "G dct"
  walk_at "G loop"
  walk_at "G der"
  walk_at "G LawC"
  trivial
section
variable {w:World}{p:Program}{loose:List Str}{mean:ExcName→Option Value}{mg mb:Str→Option Value}
   {dp un:Nat}{gd:Option (List Code)}{A₀:Around}{base h₀:Heap}{L:Addr}{m:Str→Option Value}{s:Shared}{Qk:Flow→Shared→Prop}{E:Value→Shared→Prop}
   (B:Below A₀ base [] h₀)(F:Fr h₀ L s.heap m)(X:(K w.params).In h₀)(T:Top p loose mean mg mb h₀)
include B F X T
theorem Zme:True:=by
  walk_at "G slim"
  k_with "eval Name" =>(k_here;k_dflt (refine' nameX_L ?F ?hv ?_ ?hk ?hx ?hd;(case hk=>exact rfl);(case hx=>exact rfl);(case hd=>decide);(case F=>k_asm);(case hv=>first|exact hl1|exact hl2|exact hl3|exact hl4|exact hl5|exact hl6|exact hl7)))
  k_with "call ref" =>(k_here;(with_reducible show wpAny _ _ (call (Value.ref 1113) _) _ _ _);k_dflt (refine' UL (B:=?zB) (F:=?zF) (X:=?zX) (T:=?zT) (hk:=?zhk) (N:=?zN) (hdp:=?zhdp) (hun:=?zhun) (hcl:=?zhcl) (hh:=?zhh) (hi:=?zhi) (hlen:=?zhlen) (P:=?zP) (D:=?zD) (q6:=?zq6) (q7:=?zq7) (ret:=?_);k_extra "z6";(case zhh=>with_reducible assumption);(case zP=>ktr_rel);(case zhcl=>k_mem);(case zhi=>first|with_reducible assumption|k_asm);(case zhlen=>first|with_reducible assumption|k_asm);(case zq6=>tb_start);(case zq7=>tb_start);(case zhdp=>ktr_room);(case zhun=>ktr_units);(case zD=>ktr_unf));intro d' t' ho' h' tk' hh' l0' l1' F' N' D';(try dsimp only))
  k_with "pyIter ref" =>refine UD ?_
  k_with "call type:range" =>(k_here;(with_reducible show wpAny _ _ (call (Value.type "range") [Value.int _ _]) _ _ _);k_dflt (refine' PyProof.Rows.range1_rows ?F ?N ?_;(case F=>k_asm);(case N=>k_asm));intro h' tk' t1' t2' t3' hrg' F' N' hkp')
  k_with "exec For Name Call cons nil" =>(k_here;(rename Fr _ _ _ _=>lF');(with_unfolding_all refine' For_invVF lF' ?k1 ?k2 ?_ ?k3 ?k4;(case k1=>exact rfl);(case k2=>exact rfl);(case k3=>intro _;rfl);(case k4=>first|assumption|passes_own)))
  k_with "execs cons" =>((with_reducible show wpAny _ _ (execs (Stmt.Return _ _::_) _) _ _ _);refine UD ?_)
  trivial
omit B F X T
noncomputable def Ua {sym sd tl an fl fn n:Nat}{jy js:Hs}{hp stk trl s_n sto stod:Nat}{jf:Hs}{inp outp files alia actn pst flo flod:Nat}{jm:Hs}{mcode xl grd rts bgs dbs m_n mad mmd:Nat}{jd:Hs}{oprs flgs d_n dbd wl wi hl cl' ep' sp se he xe q0:Nat}{owl owi oin oac ops oc ho:Obj}{kwl:List (Str×Value)}{cells:List Value}{ns:List Int}{x1:Value}{tn9:Tok}{TX:List Str}{FN:List (Int×Int)}{S G0:List (Addr×Obj)}:Prop:=∀ (B:Below A₀ base [] h₀)(F:Fr h₀ L s.heap m)(X:(K w.params).In h₀)(T:Top p loose mean mg mb h₀)(N:News h₀ L s.heap ((hl,ho)::(flod,ZL jf inp outp files alia actn pst 1 tn9 9)::(inp,oin)::(actn,oac)::(sp,W.listOf #[] se)::(wi,owi)::((hp,W.listOf #[] he)::(xl,W.listOf #[x1] xe)::(pst,ops)::(S++((1151,tabObj #[])::G0)))))(D:Za ((hl,ho)::(flod,ZL jf inp outp files alia actn pst 1 tn9 9)::(inp,oin)::(actn,oac)::(sp,W.listOf #[] se)::(wi,owi)::((hp,W.listOf #[] he)::(xl,W.listOf #[x1] xe)::(pst,ops)::(S++((1151,tabObj #[])::G0)))))(C:CodeHd base 1155 1151)(XB:(K w.params).In base)(TB:Top p loose mean mg mb base)(hm1:(sym,instObj 154 sd)∈G0)(hm2:(sd,Zq jy tl an fl fn n)∈G0)(ms1:(sto,instObj 430 stod)∈G0)(ms2:(stod,Zy js sym hp stk trl s_n)∈G0)(mm1:(mad,instObj 1104 mmd)∈G0)(mm2:(mmd,ZB jm sym mcode sto xl grd rts bgs dbs m_n)∈G0)(md1:(dbs,instObj 1083 dbd)∈G0)(md2:(dbd,Z8 jd flo oprs flgs d_n)∈G0)(mf1:(flo,instObj 541 flod)∈G0)(mw1:(wl,owl)∈G0)(hwl:owl.IsDictOf (strKind PR w) kwl)(hwk:valueAt kwl (Str.ofString "in")=some (.ref wi))(hwi:owi.IsDictOf (intKind PR w) [])(hi:oin.IsDictOf (intKind PR w) [((0:Int),.ref q0)])(hac:oac.IsDictOf (intKind PR w) [])(hps:ops.IsDictOf (intKind PR w) [])(hcl:(cl',W.listOf cells.toArray ep')∈G0)(hi0:IntsAre cells ns)(hlen0:ns.length<100)(hh:ZK cl' ns.length ho)(mcl:(L+1,oc)∈G0)(hoc:oc.data = .cell (some (.ref hl)))(lop:(pst==sysModules)=false)(loa:(actn==sysModules)=false)(hS:Zh w tl an fl fn TX FN S)(hpA:ZJ<+:TX)(bT:TX.length≤150)(bF:FN.length≤150)(hloc:ZbE sym flo mad wl sp m)(hE:PassesOwn (model PR w) (ktrTop dp un gd (Str.ofString "law") Zu L 1161 (aR 1160) [(Str.ofString "hand",L+1)] []) (envX (Str.ofString "law") Zu L 1161 (aR 1160) [(Str.ofString "hand",L+1)]) E)(hdp:dp+300<recursionLimit)(hun:un+2000<cLine)(ret:∀ (m':Str→Option Value)(h':Heap)(tk':Nat)(nx:List (Addr×Obj)),Fr h₀ L h' m'→News h₀ L h' nx→(∃ ps,(1151,tabObj ps)∈nx)→Qk (.ret (.bool true)) {s with heap:=h',toks:=tk'}),
   wpAny (model PR w) (ktrTop dp un gd (Str.ofString "law") Zu L 1161 (aR 1160) [(Str.ofString "hand",L+1)] []) (execs (List.drop 7 We) (envX (Str.ofString "law") Zu L 1161 (aR 1160) [(Str.ofString "hand",L+1)])) Qk E s
noncomputable def Yt (c:Zf):Prop:=@Ua (c.c 0) (c.d 0) (c.h 0) (c.k 0) (c.i 0) (c.i 1) (c.a 0) (c.a 1) (c.l 0) (c.e 0) (c.j 0) (c.j 1) (c.a 2) (c.i 2) (c.f 0) (c.x 0) (c.g 0) (c.a 3) (c.a 4) (c.a 5) (c.a 6) (c.a 7) (c.a 8) (c.a 9) (c.vj 0) (c.vj 1) (c.a 10) (c.a 11) (c.a 12) (c.a 13) (c.a 14) (c.a 15) (c.vj 2) (c.a 16) (c.a 17) (c.a 18) (c.a 19) (c.a 20) (c.a 21) (c.a 22) (c.a 23) (c.vj 3) (c.a 24) (c.a 25) (c.a 26) (c.a 27) (c.a 28) (c.a 29) (c.a 30) (c.a 31) (c.a 32) (c.vj 4) (c.a 33) (c.a 34) (c.a 35) (c.a 36) (c.a 37) (c.a 38) (c.a 39) (c.a 40) (c.a 41) (c.a 42) (c.a 43) (c.a 44) (c.a 45) (c.a 46) (c.v 0) (c.v 1) (c.v 2) (c.v 3) (c.v 4) (c.v 5) (c.v 6) (c.va 0) (c.u 0) (c.w 0) (c.p 0) (c.o 0) (c.h 1) (c.t 0) (c.b 0) (c.b 1)
noncomputable def V9:Zf:=ZM Zj Yt
theorem Wb:Yt V9:=by
  delta Yt
  exists Zf.c _ _,w
  exists Zf.d _ _,p
  exists Zf.h _ _,loose,TX
  exists Zf.k _ _,mean
  exists Zf.i _ _,mg,mb,m
  exists Zf.a _ _,dp,un,L,sym,sd,tl,an,fl,fn,n,hp,stk,trl,s_n,sto,stod,inp,outp,files,alia,actn,pst,flo,flod,mcode,xl,grd,rts,bgs,dbs,m_n,mad,mmd,oprs,flgs,d_n,dbd,wl,wi,hl,cl',ep',sp,se,he,xe,q0
  exists Zf.l _ _,gd
  exists Zf.e _ _,A₀
  exists Zf.j _ _,base,h₀
  exists Zf.f _ _,s
  exists Zf.x _ _,Qk
  exists Zf.g _ _,E
  exists Zf.vj _ _,jy,js,jf,jm,jd
  exists Zf.v _ _,owl,owi,oin,oac,ops,oc,ho
  exists Zf.va _ _,kwl
  exists Zf.u _ _,cells
  exists Zf.w _ _,ns
  exists Zf.p _ _,x1
  exists Zf.o _ _,tn9
  exists Zf.t _ _,FN
  exists Zf.b _ _,S,G0
  intro B F X T N D C XB TB hm1 hm2 ms1 ms2 mm1 mm2 md1 md2 mf1 mw1 hwl hwk hwi hi hac hps hcl hi0 hlen0 hh mcl hoc lop loa hS hpA bT bF hloc hE hdp hun ret
  delta Zq Zy ZL ZB Z8 at *
  have hcl1:(cl',W.listOf cells.toArray ep')∈((hp,W.listOf #[] he)::(xl,W.listOf #[x1] xe)::(pst,ops)::(S++((1151,tabObj #[])::G0))) :=.tail _ (.tail _ (.tail _ (List.mem_append_right _ (.tail _ hcl))))
  have mcl1:(L+1,oc)∈((hp,W.listOf #[] he)::(xl,W.listOf #[x1] xe)::(pst,ops)::(S++((1151,tabObj #[])::G0))) :=.tail _ (.tail _ (.tail _ (List.mem_append_right _ (.tail _ mcl))))
  have hG1:∀ q∈G0,q∈((hp,W.listOf #[] he)::(xl,W.listOf #[x1] xe)::(pst,ops)::(S++((1151,tabObj #[])::G0))):=fun q h =>.tail _ (.tail _ (.tail _ (List.mem_append_right _ (.tail _ h))))
  k_steps
  rename News _ _ _ _=>nN
  have nD:=Zd nN (by ktr_unf)
  refine UI (n:=(1+d' - 0).toNat) (J1 w hl cl' ns.length flod inp actn sp wi (fun (nn:Int) (tt:Tok)=>ZL jf inp outp files alia actn pst nn tt 9) ((hp,W.listOf #[] he)::(xl,W.listOf #[x1] xe)::(pst,ops)::(S++((1151,tabObj #[])::G0))) sym flo mad wl) rfl hrg' (by exact small_one (by tb_start) (by tb_start) (by tb_start) (by tb_start)) (rangeSize_nat _ _) (by k_asm) nN nD ⟨[],ho',oin,oac,owi,_,_,_,[],se,tn9,rfl,hh',hi,hac,hwi,Nat.le_refl _,Nat.le_refl _,Nat.le_refl _,rfl,fun r hr=>absurd hr List.not_mem_nil,.nil,hloc⟩ ?_ ?_
  · intro i I oI v m₁ nx h tk hi9 hJ F1 N1 D1
    exact Zg1 B F1 X T N1 D1 (hG1 _ mf1) (hG1 _ mw1) hwl hwk hcl1 hi0 hlen0 mcl1 hoc (by tb_start) (by tb_start) (by tb_start) hJ
  · intro m₁ nx h tk hJ F1 N1 D1
    obtain ⟨σ,ho3,oin3,oac3,owi3,kin3,kac3,kwi3,sv,se3,tn3,rfl,hh3,hi3,hac3,hwi3,c1,c2,c3,hsn,hok,hI,hloc3⟩:=hJ
    have hn1:0<(1+d' - 0).toNat∧(1+d' - 0).toNat≤3:=by tb_start
    generalize hk9:(1+d' - 0).toNat=n1 at N1 D1 hsn hI c1 c2 c3 hn1
    dsimp only
    clear N D nN nD hh' hh
    generalize hMM:σ.flatMap SR.mut=MM at N1 D1
    generalize hFF:σ.flatMap SR.fix=FF at N1 D1
    k_steps
    rename News _ _ _ _=>nN2
    have nD2:=Zd nN2 (by ktr_unf)
    have hG:∀ q∈G0,q∈((flod,ZL jf inp outp files alia actn pst (((n1+1:Nat):Int)) tn3 9)::(inp,oin3)::(actn,oac3)::(sp,W.listOf sv.toArray se3)::(wi,owi3)::(FF++G0)):=fun q h =>.tail _ (.tail _ (.tail _ (.tail _ (.tail _ (List.mem_append_right _ h)))))
    have hvl:sv.length=n1:=by rw [hI.length,List.length_map,Gb]
    refine UI (n:=(1+d' - 0).toNat) (J2 w tl an fl fn hl cl' ns.length hp xl pst kin3 kac3 kwi3 ((flod,ZL jf inp outp files alia actn pst (((n1+1:Nat):Int)) tn3 9)::(inp,oin3)::(actn,oac3)::(sp,W.listOf sv.toArray se3)::(wi,owi3)::(FF++G0)) (Ym n1) sym flo mad wl sp) rfl hrg' (by exact small_one (by tb_start) (by tb_start) (by tb_start) (by tb_start)) (rangeSize_nat _ _) (by k_asm) (news:=(hl,ho')::(hp,W.listOf #[] he)::(xl,W.listOf #[x1] xe)::(pst,ops)::(S++((1151,tabObj #[])::(σ.flatMap SR.mut++((flod,ZL jf inp outp files alia actn pst (((n1+1:Nat):Int)) tn3 9)::(inp,oin3)::(actn,oac3)::(sp,W.listOf sv.toArray se3)::(wi,owi3)::(FF++G0)))))) (by rw [hMM];exact Zc nN2 (by ktr_rel)) (by rw [hMM];exact Zb nD2 (by ktr_rel)) ⟨σ,ho',ops,#[],#[x1],he,xe,[],TX,FN,S,[(1151,tabObj #[])],rfl,hh',hS,.inl ZjD,hps,hsn,?_,Nat.le_refl _,.inl rfl,Nat.le_refl _,by tb_start,by tb_start,hpA,hloc3⟩ ?_ ?_
    · intro r hr
      obtain ⟨a1,a2,a3,a4,a5,a6,a7,a8,a9⟩:=hok r hr
      refine ⟨a1,a2,a3,a4,?_,?_,a5,a6,a7,by rw [a8];rfl,by tb_start⟩
      · exact .tail _ (.tail _ (.tail _ (.tail _ (.tail _ (List.mem_append_left _ (hFF ▸ List.mem_flatMap.mpr ⟨r,hr,.head _⟩))))))
      · exact .tail _ (.tail _ (.tail _ (.tail _ (.tail _ (List.mem_append_left _ (hFF ▸ List.mem_flatMap.mpr ⟨r,hr,.tail _ (.head _)⟩))))))
    · intro i I oI v m₂ nx h tk hi9 hJ F2 N2 D2
      exact Zg0 B F2 X T N2 D2 C XB TB (hm1:=hG _ hm1) (hm2:=hG _ hm2) (ms1:=hG _ ms1) (ms2:=hG _ ms2) (mm1:=hG _ mm1) (mm2:=hG _ mm2) (md1:=hG _ md1) (md2:=hG _ md2) (mf1:=hG _ mf1) (mf2 :=.head _) (mw1:=hG _ mw1) (hwl:=hwl) (hwk:=hwk) (mw2 :=.tail _ (.tail _ (.tail _ (.tail _ (.head _))))) (hwi:=hwi3) (mi :=.tail _ (.head _)) (hi:=hi3) (hcl:=hG _ hcl) (hi0:=hi0) (hlen0:=hlen0) (mcl:=hG _ mcl) (hoc:=hoc) (lop:=lop) (mac :=.tail _ (.tail _ (.head _))) (hac:=hac3) (loa:=loa) (msp :=.tail _ (.tail _ (.tail _ (.head _)))) (hsv:=ZeS hI) (kz0:=by rw [List.size_toArray];tb_start) (kz1:=by rw [List.size_toArray];tb_start) (hnd:=Zbb _) (hdp:=by tb_start) (hun:=by tb_start) (i14:=by tb_start) (hJ:=hJ)
    · intro m₂ nx h tk hJ F2 N2 D2
      obtain ⟨σ9,ho9,ops9,hv9,xv9,he9,xe9,kps9,TX9,FN9,S9,TR9,rfl,hh9,hS9,hT9,hps9,hsn9,hok9,_,_,_,_,_,_,hloc9⟩:=hJ
      dsimp only
      k_steps
      exact Zgc B F2 X T (N:=N2) (D:=D2) (msp :=.tail _ (.tail _ (.tail _ (.tail _ (List.mem_append_right _ (List.mem_append_right _ (List.mem_append_right _ (.tail _ (.tail _ (.tail _ (.head _)))))))))) ) (hI:=hI) (hfm:=by rw [hvl];exact Zkm hn1.1 hn1.2) (hlen:=by rw [List.length_map,Gb];tb_start) (hl1:=hloc9.2.2.2.2) (hdp:=by tb_start) (hun:=by tb_start) (nx:=fun m' h' tk' F' N'=>ret m' h' tk' _ F' N' (Zgb hT9))
theorem Zbo {sym sd tl an fl fn n jy js hp stk trl s_n sto stod jf inp outp files alia actn pst flo flod jm mcode xl grd rts bgs dbs m_n mad mmd jd oprs flgs d_n dbd wl wi hl cl' ep' sp se he xe q0 owl owi oin oac ops oc ho kwl cells ns x1 tn9 TX FN S G0}:@Ua w p loose mean mg mb dp un gd A₀ base h₀ L m s Qk E sym sd tl an fl fn n jy js hp stk trl s_n sto stod jf inp outp files alia actn pst flo flod jm mcode xl grd rts bgs dbs m_n mad mmd jd oprs flgs d_n dbd wl wi hl cl' ep' sp se he xe q0 owl owi oin oac ops oc ho kwl cells ns x1 tn9 TX FN S G0:=ZN (k:=V9) rfl Wb (dC |>.sc (gt dC.c [w]) |>.sd (gt dC.d [p]) |>.sh (gt dC.h [loose,TX]) |>.sk (gt dC.k [mean]) |>.si (gt dC.i [mg,mb,m]) |>.sa (gt dC.a [dp,un,L,sym,sd,tl,an,fl,fn,n,hp,stk,trl,s_n,sto,stod,inp,outp,files,alia,actn,pst,flo,flod,mcode,xl,grd,rts,bgs,dbs,m_n,mad,mmd,oprs,flgs,d_n,dbd,wl,wi,hl,cl',ep',sp,se,he,xe,q0]) |>.sl (gt dC.l [gd]) |>.se (gt dC.e [A₀]) |>.sj (gt dC.j [base,h₀]) |>.sf (gt dC.f [s]) |>.sx (gt dC.x [Qk]) |>.sg (gt dC.g [E]) |>.svj (gt dC.vj [jy,js,jf,jm,jd]) |>.sv (gt dC.v [owl,owi,oin,oac,ops,oc,ho]) |>.sva (gt dC.va [kwl]) |>.su (gt dC.u [cells]) |>.sw (gt dC.w [ns]) |>.sp (gt dC.p [x1]) |>.so (gt dC.o [tn9]) |>.st (gt dC.t [FN]) |>.sb (gt dC.b [S,G0]))
include B F X T
end
theorem Zmd:True:=by
  walk_at "RST"
  walk_at "G dct"
  walk_at "G loop"
  walk_at "G der"
  walk_at "G LawC"
  trivial
section
variable {w:World}{p:Program}{loose:List Str}{mean:ExcName→Option Value}{mg mb:Str→Option Value}
   {dp un:Nat}{gd:Option (List Code)}{A₀:Around}{base h₀:Heap}{L:Addr}{m:Str→Option Value}{s:Shared}{Qk:Flow→Shared→Prop}{E:Value→Shared→Prop}
   (B:Below A₀ base [] h₀)(F:Fr h₀ L s.heap m)(X:(K w.params).In h₀)(T:Top p loose mean mg mb h₀)
include B F X T
theorem Zmc:True:=by
  walk_at "G slim"
  k_with "eval Name" =>(k_here;k_dflt (refine' nameX_L ?F ?hv ?_ ?hk ?hx ?hd;(case hk=>exact rfl);(case hx=>exact rfl);(case hd=>decide);(case F=>k_asm);(case hv=>first|exact hl1|exact hl2|exact hl3|exact hl4|exact hl5|exact hl6|exact hl7)))
  trivial
theorem WS {sym sd tl an fl fn n:Nat}{jy:Hs}{js:Hs}{hp stk trl s_n:Nat}{sto stod:Nat}{jf:Hs}{inp outp files alia actn pst:Nat}{flo flod:Nat}{jm:Hs}{mcode xl grd rts bgs dbs m_n:Nat}{mad mmd:Nat}{jd:Hs}{oprs flgs d_n:Nat}{dbd:Nat}{wl wi hl cl' ep' sp q0:Nat}{owl owi oin oac ops oc:Obj}{kwl:List (Str×Value)}{cells:List Value}{ns:List Int}{x1:Value}{tn9 u1 u2 u3:Tok}{sd0:Int}{TX:List Str}{FN:List (Int×Int)}{S:List (Addr×Obj)}
   (N:News h₀ L s.heap ((sp,W.listOf #[] 0)::(wi,owi)::(wl,owl)::(mad,instObj 1104 mmd)::(mmd,ZB jm sym mcode sto xl grd rts bgs dbs m_n)::(sto,instObj 430 stod)::(stod,Zy js sym hp stk trl s_n)::(dbs,instObj 1083 dbd)::(dbd,Z8 jd flo oprs flgs d_n)::(hp,W.listOf #[] 0)::(xl,W.listOf #[x1] 0)::(S++[(flo,instObj 541 flod),(flod,ZL jf inp outp files alia actn pst 1 tn9 9),(inp,oin),(actn,oac),(pst,ops),(sym,instObj 154 sd),(sd,Zq jy tl an fl fn n),(hl,Vm cl' 0 0 sd0 u1 u2 u3 0),(cl',W.listOf cells.toArray ep'),(L+1,oc),(1151,tabObj #[])])))(D:Za ((sp,W.listOf #[] 0)::(wi,owi)::(wl,owl)::(mad,instObj 1104 mmd)::(mmd,ZB jm sym mcode sto xl grd rts bgs dbs m_n)::(sto,instObj 430 stod)::(stod,Zy js sym hp stk trl s_n)::(dbs,instObj 1083 dbd)::(dbd,Z8 jd flo oprs flgs d_n)::(hp,W.listOf #[] 0)::(xl,W.listOf #[x1] 0)::(S++[(flo,instObj 541 flod),(flod,ZL jf inp outp files alia actn pst 1 tn9 9),(inp,oin),(actn,oac),(pst,ops),(sym,instObj 154 sd),(sd,Zq jy tl an fl fn n),(hl,Vm cl' 0 0 sd0 u1 u2 u3 0),(cl',W.listOf cells.toArray ep'),(L+1,oc),(1151,tabObj #[])])))
   (hpk:CodeHd base 1155 1151∧(K w.params).In base∧Top p loose mean mg mb base)
   (hwl:owl.IsDictOf (strKind PR w) kwl)(hwk:valueAt kwl (Str.ofString "in")=some (.ref wi))(hwi:owi.IsDictOf (intKind PR w) [])(hi:oin.IsDictOf (intKind PR w) [((0:Int),.ref q0)])(hac:oac.IsDictOf (intKind PR w) [])(hps:ops.IsDictOf (intKind PR w) [])
   (hi0:IntsAre cells ns)(hlen0:ns.length<100)(s0:0≤sd0)(s1:sd0<2147483647)(hoc:oc.data = .cell (some (.ref hl)))
   (lop:(pst==sysModules)=false)(loa:(actn==sysModules)=false)(hS:Zh w tl an fl fn TX FN S)(hpA:ZJ<+:TX)(bT:TX.length≤150)(bF:FN.length≤150)
   (hloc:ZbE sym flo mad wl sp m)
   (hE:PassesOwn (model PR w) (ktrTop dp un gd (Str.ofString "law") Zu L 1161 (aR 1160) [(Str.ofString "hand",L+1)] []) (envX (Str.ofString "law") Zu L 1161 (aR 1160) [(Str.ofString "hand",L+1)]) E)
   (hdp:dp+300<recursionLimit)(hun:un+2000<cLine)
   (ret:∀ (m':Str→Option Value)(h':Heap)(tk':Nat)(nx:List (Addr×Obj)),Fr h₀ L h' m'→News h₀ L h' nx→(∃ ps,(1151,tabObj ps)∈nx)→Qk (.ret (.bool true)) {s with heap:=h',toks:=tk'}) :
   wpAny (model PR w) (ktrTop dp un gd (Str.ofString "law") Zu L 1161 (aR 1160) [(Str.ofString "hand",L+1)] []) (execs (List.drop 7 We) (envX (Str.ofString "law") Zu L 1161 (aR 1160) [(Str.ofString "hand",L+1)])) Qk E s :=
  Zbo B F X T (G0:=[(flo,instObj 541 flod),(sym,instObj 154 sd),(sd,Zq jy tl an fl fn n),(mad,instObj 1104 mmd),(mmd,ZB jm sym mcode sto xl grd rts bgs dbs m_n),(sto,instObj 430 stod),(stod,Zy js sym hp stk trl s_n),(dbs,instObj 1083 dbd),(dbd,Z8 jd flo oprs flgs d_n),(wl,owl),(cl',W.listOf cells.toArray ep'),(L+1,oc)]) (ho:=Vm cl' 0 0 sd0 u1 u2 u3 0) (N:=Zc N (by ktr_rel)) (D:=Zb D (by ktr_rel)) hpk.1 hpk.2.1 hpk.2.2 (hm1:=by k_mem) (hm2:=by k_mem) (ms1:=by k_mem) (ms2:=by k_mem) (mm1:=by k_mem) (mm2:=by k_mem) (md1:=by k_mem) (md2:=by k_mem) (mf1:=by k_mem) (mw1:=by k_mem) (hwl:=hwl) (hwk:=hwk) (hwi:=hwi) (hi:=hi) (hac:=hac) (hps:=hps) (hcl:=by k_mem) (hi0:=hi0) (hlen0:=hlen0) (hh:=⟨_,_,_,_,_,_,_,rfl,Int.le_refl _,by tb_start,Int.le_refl _,s0,s1⟩) (mcl:=by k_mem) (hoc:=hoc) (lop:=lop) (loa:=loa) (hS:=hS) (hpA:=hpA) (bT:=bT) (bF:=bF) (hloc:=hloc) (hE:=hE) (hdp:=hdp) (hun:=hun) (ret:=ret)
theorem Zmb:True:=by
  k_with "call ref" =>(k_here;(with_reducible show wpAny _ _ (call (Value.ref 154) _) _ _ _);k_dflt (refine' ZeA (B:=?zB) (F:=?zF) (X:=?zX) (T:=?zT) (N:=?zN) (hdp:=?zhdp) (hun:=?zhun) (D:=?zD) (ret:=?_);k_extra "z5";(case zhdp=>ktr_room);(case zhun=>ktr_units);(case zD=>ktr_unf));intro sym sd tl an fl fn n jy TX' FN' S' h' tk' hS' hpA lA lB F' N' D';(try dsimp only))
  k_with "call ref" =>(k_here;(with_reducible show wpAny _ _ (call (Value.ref 541) _) _ _ _);k_dflt (refine' Ze7 (B:=?zB) (F:=?zF) (X:=?zX) (T:=?zT) (N:=?zN) (hdp:=?zhdp) (hun:=?zhun) (D:=?zD) (ret:=?_);k_extra "z5";(case zhdp=>ktr_room);(case zhun=>ktr_units);(case zD=>ktr_unf));intro jf ft8 inp outp files alia actn pst flo flod oin oac ops q0 h' tk' F' N' D' hi' hac' hps' loa' lop';(try dsimp only))
  k_with "call ref" =>(k_here;(with_reducible show wpAny _ _ (call (Value.ref 769) _) _ _ _);k_dflt (refine' ZeK (B:=?zB) (F:=?zF) (X:=?zX) (T:=?zT) (N:=?zN) (hdp:=?zhdp) (hun:=?zhun) (D:=?zD) (ret:=?_);k_extra "z5";(case zhdp=>ktr_room);(case zhun=>ktr_units);(case zD=>ktr_unf));intro oprs h' tk' F' N';(try dsimp only))
  k_with "call ref" =>(k_here;(with_reducible show wpAny _ _ (call (Value.ref 823) _) _ _ _);k_dflt (refine' Ze8 (B:=?zB) (F:=?zF) (X:=?zX) (T:=?zT) (N:=?zN) (hdp:=?zhdp) (hun:=?zhun) (hm1:=?zhm1) (hm2:=?zhm2) (P:=?zP) (D:=?zD) (hS:=?zhS) (hb:=?zhb) (ret:=?_);k_extra "z5";(case zhS=>first|with_reducible assumption|k_asm);(case zP=>ktr_rel);(case zhm1=>k_mem);(case zhm2=>k_mem);(case zhb=>tb_start);(case zhdp=>ktr_room);(case zhun=>ktr_units);(case zD=>ktr_unf));intro flgs TX' S' h' tk' hS' pre' len' F' N' D';(try dsimp only))
  k_with "call ref" =>(k_here;(with_reducible show wpAny _ _ (call (Value.ref 1104) _) _ _ _);k_dflt (refine' ZeP (B:=?zB) (F:=?zF) (X:=?zX) (T:=?zT) (N:=?zN) (hdp:=?zhdp) (hun:=?zhun) (D:=?zD) (ret:=?_);k_extra "z5";(case zhdp=>ktr_room);(case zhun=>ktr_units);(case zD=>ktr_unf));intro jm mcode xl grd rts bgs dbs m_n mad mmd js hp stk trl s_n sto stod jd d_n dbd x1 h' tk' F' N' D';(try dsimp only))
  k_with "execs cons" =>((with_reducible show wpAny _ _ (execs (Stmt.For _ _ _ _ _::_) _) _ _ _);refine UD ?_)
  trivial
omit B F X T
noncomputable def UX {sl:Nat}{vs:List Value}{ns:List Int}{oc:Obj}:Prop:=∀ (B:Below A₀ base [] h₀)(F:Fr h₀ L s.heap m)(X:(K w.params).In h₀)(T:Top p loose mean mg mb h₀)(hL:h₀.IsList sl vs.toArray)(hI:IntsAre vs ns)(hlen:ns.length≤63)(N:News h₀ L s.heap [(L+1,oc),(1151,tabObj #[])])(D:Za [(L+1,oc),(1151,tabObj #[])])(hoc:oc.data = .cell none)(hl1:m (Str.ofString "script")=some (.ref sl))(hpk:CodeHd base 1155 1151∧(K w.params).In base∧Top p loose mean mg mb base)(hE:PassesOwn (model PR w) (ktrTop dp un gd (Str.ofString "law") Zu L 1161 (aR 1160) [(Str.ofString "hand",L+1)] []) (envX (Str.ofString "law") Zu L 1161 (aR 1160) [(Str.ofString "hand",L+1)]) E)(hdp:dp+400<recursionLimit)(hun:un+3000<cLine)(ret:∀ (m':Str→Option Value)(h':Heap)(tk':Nat)(nx:List (Addr×Obj)),Fr h₀ L h' m'→News h₀ L h' nx→(∃ ps,(1151,tabObj ps)∈nx)→Qk (.ret (.bool true)) {s with heap:=h',toks:=tk'}),
   wpAny (model PR w) (ktrTop dp un gd (Str.ofString "law") Zu L 1161 (aR 1160) [(Str.ofString "hand",L+1)] []) (execs We (envX (Str.ofString "law") Zu L 1161 (aR 1160) [(Str.ofString "hand",L+1)])) Qk E s
noncomputable def YW (c:Zf):Prop:=@UX (c.c 0) (c.d 0) (c.h 0) (c.k 0) (c.i 0) (c.i 1) (c.a 0) (c.a 1) (c.l 0) (c.e 0) (c.j 0) (c.j 1) (c.a 2) (c.i 2) (c.f 0) (c.x 0) (c.g 0) (c.a 3) (c.u 0) (c.w 0) (c.v 0)
noncomputable def UW:Zf:=ZM Zj YW
theorem WT:YW UW:=by
  delta YW
  exists Zf.c _ _,w
  exists Zf.d _ _,p
  exists Zf.h _ _,loose
  exists Zf.k _ _,mean
  exists Zf.i _ _,mg,mb,m
  exists Zf.a _ _,dp,un,L,sl
  exists Zf.l _ _,gd
  exists Zf.e _ _,A₀
  exists Zf.j _ _,base,h₀
  exists Zf.f _ _,s
  exists Zf.x _ _,Qk
  exists Zf.g _ _,E
  exists Zf.u _ _,vs
  exists Zf.w _ _,ns
  exists Zf.v _ _,oc
  intro B F X T hL hI hlen N D hoc hl1 hpk hE hdp hun ret
  k_steps
  show wpAny _ _ _ _ _ _
  k_dflt (refine' WS ?B ?F ?X ?T ?N ?D ?hpk ?hwl ?hwk ?hwi ?hi ?hac ?hps ?hi0 ?hlen0 ?s0 ?s1 ?hoc ?lop ?loa ?hS ?hpA ?bT ?bF ?hloc ?hE ?hdp ?hun ?ret;(case B=>k_asm);(case F=>k_asm);(case X=>k_asm);(case T=>k_asm);(case N=>k_asm);(case D=>ktr_unf);(case hpk=>exact hpk);(case hwl=>assumption);(case hwk=>exact rfl);(case hwi=>assumption);(case hi=>exact hi');(case hac=>exact hac');(case hps=>exact hps');(case hi0=>assumption);(case hlen0=>(rw [List.length_take];tb_start));(case s0=>(have a9:=Gk ((ns.take 63).sum) (show (0:Int)<100003 by decide);tb_start));(case s1=>(have a9:=Gl ((ns.take 63).sum) (show (0:Int)<100003 by decide);tb_start));(case hoc=>assumption);(case lop=>exact lop');(case loa=>exact loa');(case hS=>exact hS');(case hpA=>exact List.IsPrefix.trans hpA pre');(case bT=>tb_start);(case bF=>tb_start);(case hloc=>exact ⟨rfl,rfl,rfl,rfl,rfl⟩);(case hE=>first|exact hE|assumption);(case hdp=>tb_start);(case hun=>tb_start);(case ret=>exact ret))
theorem Zcs {sl vs ns oc}:@UX w p loose mean mg mb dp un gd A₀ base h₀ L m s Qk E sl vs ns oc:=ZN (k:=UW) rfl WT (dC |>.sc (gt dC.c [w]) |>.sd (gt dC.d [p]) |>.sh (gt dC.h [loose]) |>.sk (gt dC.k [mean]) |>.si (gt dC.i [mg,mb,m]) |>.sa (gt dC.a [dp,un,L,sl]) |>.sl (gt dC.l [gd]) |>.se (gt dC.e [A₀]) |>.sj (gt dC.j [base,h₀]) |>.sf (gt dC.f [s]) |>.sx (gt dC.x [Qk]) |>.sg (gt dC.g [E]) |>.su (gt dC.u [vs]) |>.sw (gt dC.w [ns]) |>.sv (gt dC.v [oc]))
include B F X T
end
section
open PySem PySem.W PySem.Calls PyProof.Rows
theorem ZgT {P:Params}{h:Heap}{o:Obj}{i:Nat}(e:h.objs.toList=l20 P)(g:(l20 P)[i]? = some o)(hf:o.isFreed=false):h.get? i=some o:=by
  refine Heap.get?_some_iff.mpr ⟨?_,hf⟩
  rw [← e] at g
  simpa using g
theorem Zeu {P:Params}{h:Heap}(X:(K P).In h)(e:h.objs.toList=l20 P):TabsAt [(1155,1151)] h:=by
  intro q hq
  rw [List.mem_singleton.mp hq]
  refine ⟨⟨Zax P,_,_,_,_,_,_,_,_,X 1155 (Zax P) (by kernel_rfl),rfl,rfl,rfl,rfl,rfl,rfl,rfl,rfl,by decide⟩,?_⟩
  exact ZgT e (by kernel_rfl) rfl
theorem Za1 {h h':Heap}(x:TabsAt [(1155,1151)] h)(k:∀ b o,h.get? b=some o→h'.get? b=some o):TabsAt [(1155,1151)] h':=fun q hq=>⟨(x q hq).1.keeps k,k _ _ (x q hq).2⟩
noncomputable def U0:Hook:=⟨List Obj,fun s=>s.heap.objs.toList,fun w=>l20 w.params,fun w h=>(K w.params).In h∧TabsAt [(1155,1151)] h,fun _ _ e=>⟨ZgX e,Zeu (ZgX e) e⟩,fun w h h' x k=>⟨InK.keeps w h h' x.1 k,Za1 x.2 k⟩⟩
theorem ZjC:LeftO PR Gu loose Xt (Hook.obs U0) (Hook.val U0) 20000 true:=left
theorem hdTest:PySem.Challenge.rw_ok0033_01.Holds:=by
  w_on
  refine holds_law ZlC fun said=>?_
  refine holds_open (r:=OpenLaw.row PySem.Challenge.rw_ok0033_01) (q:=Gu) (loose:=loose) (Xt:=Xt) (XP:=XL Gu []) (Yf:=Hook.obs U0) (Ya:=Hook.val U0) (YP:=Hook.says U0) (N:=20000) ZjC (Hook.of U0) (Hook.keeps U0) (fun s e=>xl_of s (Bool.and_eq_true_iff.mp e).1) XL.keeps (by rfl) (by rfl) (by rfl) (fun s e=>recFacts_of (Bool.and_eq_true_iff.mp e).2) (by rfl) said Zl7 ⟨rfl,rfl,rfl,rfl,rfl,ZlD⟩ ?hw ?hc
  case hw=>w_witness2
  w_strict (k_fill;intro w s₀ s₁ mg mb G Y fa o pm cd doc dV kV ho hd hcd hD hmg hg args vals as hpre hlay hrd hwl hlo;have X9:(K w.params).In s₁.heap:=Y.1;have hT9:TabsAt [(1155,1151)] s₁.heap:=Y.2)
  clear Y
  have X:=(Ground.X G).1
  have V:=(Ground.X G).2
  refine Ground.open G ?_
  intro T B D TE TW
  (try (refine guard_noD D (by decide +kernel) ?_;clear D))
  have hfa:fa=1161:=by
    have e:=mg_of (n:=Str.ofString "law") (v :=.ref 1161) X9 (Top.g T) (by kernel_rfl)
    exact Value.ref.inj (Option.some.inj (hmg.symm.trans e))
  have he9:cd=PySem.Value.ref 1160:=law_code (x:=PySem.Str.ofString "law") (c:=1160) (P:=1158) X9 (Top.g T) (by kernel_rfl) hmg ho hd
  subst he9 hfa
  clear hmg
  wrow_args hpre hlay hrd hwl hlo
  all_goals (
    first|refine callC_kw (enter_call ?_)|refine enter_call ?_
    w_top on
    refine kn_post hT9 (fun _ _=>rfl) ?_
    w_call any ho hd hcd hD T F
    clear hd)
  rename News _ _ _ _=>N
  rename Heap.IsList _ _ _=>hLs
  rename IntsAre _ _=>hIs
  rename (_=Data.cell _)=>hcl9
  have XG:(K w.params).In (ghostOf s₁.heap [(1155,1151)]):=ghost_K hT9 X9 (by kernel_rfl)
  have TG:=ghost_top hT9 T
  have CG:CodeHd (ghostOf s₁.heap [(1155,1151)]) 1155 1151:=(ghost_code hT9).1
  have l0:=ghost_lt hT9 F
  have NG:=ghost_news hT9 F N
  have FG:=ghost_fr hT9 F
  have BG:=ghost_below hT9
  have LG:=ghost_list hT9 hLs
  have l1:(1151:Nat)<s₁.heap.objs.size:=l0 (1151,tabObj #[]) (.head _)
  refine Zcs (base:=ghostOf s₁.heap [(1155,1151)]) BG FG XG TG LG hIs (by omega) NG (Gr (fun q hq=>by rw [List.mem_singleton.mp hq];exact Nat.ne_of_lt (Nat.lt_succ_of_lt l1)) (List.nodup_cons.mpr ⟨List.not_mem_nil,List.nodup_nil⟩)) hcl9 rfl ⟨CG,XG,TG⟩ ?hE ?hd ?hu ?ret
  case hE=>passes_own
  case hd=>decide
  case hu=>decide
  case ret =>
    intro m' h' tk' nx F9 N9 hps
    obtain ⟨ps,hps⟩:=hps
    refine ⟨?_,GrownAt.of N9 hps,trivial⟩
    k_steps
end
end Mine
theorem PySem.Challenge.cw_ok0033_01_holds : PySem.Challenge.rw_ok0033_01.Holds :=
  Mine.hdTest
