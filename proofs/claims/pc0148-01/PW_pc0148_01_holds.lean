import PyProof.Rows.All
import PyProof.ExcClass2
import PyProof.ExcArgsOwn
import PyProof.ExcBaseAll.Exception
import PyProof.ExcAttrAll.Exception
import KE.LcTurns
import KE.KNest
import KE.KLam
import KE.KDictNew
import KE.KTryDeep
import Wide.FinOn
import OpenK.AllK
import Wide.All
import PySem.Challenge.RW_pc0148_01
open PySem PySem.W PyProof.Rows PySem.Calls PySem.Challenge
set_option Elab.async false
set_option maxRecDepth 100000
set_option maxHeartbeats 0
set_option linter.all false
noncomputable section
namespace Mine
namespace AI
section
section
set_option genSizeOf false
set_option genInjectivity false
set_option genCtorIdx false
noncomputable def tr {α β:Type}(o:Option α) (f:α→Option β) (e:Option β):Option β:=Option.rec e f o
noncomputable def bd {α β:Type}(o:Option α) (f:α→Option β):Option β:=Option.rec none f o
noncomputable def mp {α β:Type}(f:α→β) (o:Option α):Option β:=Option.rec none (λ x=>some (f x)) o
noncomputable def gd {β:Type}(b:Bool) (x:Option β):Option β:=Bool.rec none x b
noncomputable def cd {β:Type}(b:Bool) (x y:β):β:=Bool.rec y x b
noncomputable def one? {α:Type}(l:List α):Option α:=List.rec none (λ a r _=>List.rec (some a) (λ _ _ _=>none) r) l
noncomputable def two? {α:Type}(l:List α):Option (α × α):=List.rec none (λ a r _=>mp (λ b=>(a,b)) (one? r)) l
noncomputable def nat? (i:Int):Option Nat:=Int.rec some (λ _=>none) i
noncomputable def Stmt.asg? (s:Stmt):Option PySem.Expr:=Stmt.casesOn (motive_2:=λ _=>Option PySem.Expr) s (λ _ _ _ _ _ _ _ _ _ _=>none) (λ _ _ _ _ _ _ _ _ _ _=>none) (λ _ _ _ _ _ _ _ _ _ _ _=>none) (λ _ _=>none) (λ _ _=>none) (λ _ e _=>some e) (λ _ _ _ _ _ _ _=>none) (λ _ _ _ _=>none) (λ _ _ _ _ _=>none) (λ _ _ _ _ _=>none) (λ _ _ _ _ _=>none) (λ _ _ _ _=>none) (λ _ _ _ _=>none) (λ _ _ _=>none) (λ _ _ _=>none) (λ _ _ _=>none) (λ _ _ _=>none) (λ _ _ _ _ _=>none) (λ _ _ _ _ _=>none) (λ _ _ _=>none) (λ _ _=>none) (λ _ _ _ _=>none) (λ _ _=>none) (λ _ _=>none) (λ _ _=>none) (λ _=>none) (λ _=>none) (λ _=>none)
noncomputable def Stmt.def? (s:Stmt):Option (Str × Arguments × List Stmt × Scope):=Stmt.casesOn (motive_2:=λ _=>Option (Str × Arguments × List Stmt × Scope)) s (λ n a b _ _ _ c _ _ _=>some (n,a,b,c)) (λ _ _ _ _ _ _ _ _ _ _=>none) (λ _ _ _ _ _ _ _ _ _ _ _=>none) (λ _ _=>none) (λ _ _=>none) (λ _ _ _=>none) (λ _ _ _ _ _ _ _=>none) (λ _ _ _ _=>none) (λ _ _ _ _ _=>none) (λ _ _ _ _ _=>none) (λ _ _ _ _ _=>none) (λ _ _ _ _=>none) (λ _ _ _ _=>none) (λ _ _ _=>none) (λ _ _ _=>none) (λ _ _ _=>none) (λ _ _ _=>none) (λ _ _ _ _ _=>none) (λ _ _ _ _ _=>none) (λ _ _ _=>none) (λ _ _=>none) (λ _ _ _ _=>none) (λ _ _=>none) (λ _ _=>none) (λ _ _=>none) (λ _=>none) (λ _=>none) (λ _=>none)
noncomputable def Stmt.cls? (s:Stmt):Option (List Stmt):=Stmt.casesOn (motive_2:=λ _=>Option (List Stmt)) s (λ _ _ _ _ _ _ _ _ _ _=>none) (λ _ _ _ _ _ _ _ _ _ _=>none) (λ _ _ _ b _ _ _ _ _ _ _=>some b) (λ _ _=>none) (λ _ _=>none) (λ _ _ _=>none) (λ _ _ _ _ _ _ _=>none) (λ _ _ _ _=>none) (λ _ _ _ _ _=>none) (λ _ _ _ _ _=>none) (λ _ _ _ _ _=>none) (λ _ _ _ _=>none) (λ _ _ _ _=>none) (λ _ _ _=>none) (λ _ _ _=>none) (λ _ _ _=>none) (λ _ _ _=>none) (λ _ _ _ _ _=>none) (λ _ _ _ _ _=>none) (λ _ _ _=>none) (λ _ _=>none) (λ _ _ _ _=>none) (λ _ _=>none) (λ _ _=>none) (λ _ _=>none) (λ _=>none) (λ _=>none) (λ _=>none)
noncomputable def Const.str? (c:Const):Option Str:=Const.casesOn (motive:=λ _=>Option Str) c none (λ _=>none) (λ _=>none) (λ _=>none) (λ _ _=>none) (some) (λ _=>none) none
section
open PySem (Expr)
noncomputable def zjz (e:Expr):Option Const:=Expr.casesOn (motive_1:=λ _=>Option Const) e (λ _ _ _=>none) (λ _ _ _=>none) (λ _ _ _ _=>none) (λ _ _ _=>none) (λ _ _ _ _=>none) (λ _ _ _ _=>none) (λ _ _ _=>none) (λ _ _ _=>none) (λ _ _ _ _=>none) (λ _ _ _ _=>none) (λ _ _ _ _ _=>none) (λ _ _ _ _=>none) (λ _ _=>none) (λ _ _=>none) (λ _ _=>none) (λ _ _ _ _=>none) (λ _ _ _ _=>none) (λ _ _ _ _=>none) (λ _ _=>none) (λ c _ _=>some c) (λ _ _ _=>none) (λ _ _ _=>none) (λ _ _=>none) (λ _ _=>none) (λ _ _=>none) (λ _ _ _=>none) (λ _ _ _ _=>none)
noncomputable def zkm (e:Expr):Option (Str × Pos):=Expr.casesOn (motive_1:=λ _=>Option (Str × Pos)) e (λ _ _ _=>none) (λ _ _ _=>none) (λ _ _ _ _=>none) (λ _ _ _=>none) (λ _ _ _ _=>none) (λ _ _ _ _=>none) (λ _ _ _=>none) (λ _ _ _=>none) (λ _ _ _ _=>none) (λ _ _ _ _=>none) (λ _ _ _ _ _=>none) (λ _ _ _ _=>none) (λ _ _=>none) (λ _ _=>none) (λ _ _=>none) (λ _ _ _ _=>none) (λ _ _ _ _=>none) (λ _ _ _ _=>none) (λ _ _=>none) (λ _ _ _=>none) (λ _ _ _=>none) (λ _ _ _=>none) (λ _ _=>none) (λ x p=>some (x,p)) (λ _ _=>none) (λ _ _ _=>none) (λ _ _ _ _=>none)
noncomputable def oTup (e:Expr):Option (List Expr):=Expr.casesOn (motive_1:=λ _=>Option (List Expr)) e (λ _ _ _=>none) (λ _ _ _=>none) (λ _ _ _ _=>none) (λ _ _ _=>none) (λ _ _ _ _=>none) (λ _ _ _ _=>none) (λ _ _ _=>none) (λ _ _ _=>none) (λ _ _ _ _=>none) (λ _ _ _ _=>none) (λ _ _ _ _ _=>none) (λ _ _ _ _=>none) (λ _ _=>none) (λ _ _=>none) (λ _ _=>none) (λ _ _ _ _=>none) (λ _ _ _ _=>none) (λ _ _ _ _=>none) (λ _ _=>none) (λ _ _ _=>none) (λ _ _ _=>none) (λ _ _ _=>none) (λ _ _=>none) (λ _ _=>none) (λ _ _=>none) (λ l _ _=>some l) (λ _ _ _ _=>none)
noncomputable def oCall (e:Expr):Option (Expr × List Expr × List Keyword × Pos):=Expr.casesOn (motive_1:=λ _=>Option (Expr × List Expr × List Keyword × Pos)) e (λ _ _ _=>none) (λ _ _ _=>none) (λ _ _ _ _=>none) (λ _ _ _=>none) (λ _ _ _ _=>none) (λ _ _ _ _=>none) (λ _ _ _=>none) (λ _ _ _=>none) (λ _ _ _ _=>none) (λ _ _ _ _=>none) (λ _ _ _ _ _=>none) (λ _ _ _ _=>none) (λ _ _=>none) (λ _ _=>none) (λ _ _=>none) (λ _ _ _ _=>none) (λ f as ks p=>some (f,as,ks,p)) (λ _ _ _ _=>none) (λ _ _=>none) (λ _ _ _=>none) (λ _ _ _=>none) (λ _ _ _=>none) (λ _ _=>none) (λ _ _=>none) (λ _ _=>none) (λ _ _ _=>none) (λ _ _ _ _=>none)
noncomputable def zzt (e:Expr):Bool:=Expr.casesOn (motive_1:=λ _=>Bool) e (λ _ _ _=>true) (λ _ _ _=>true) (λ _ _ _ _=>true) (λ _ _ _=>true) (λ _ _ _ _=>true) (λ _ _ _ _=>true) (λ _ _ _=>true) (λ _ _ _=>true) (λ _ _ _ _=>false) (λ _ _ _ _=>false) (λ _ _ _ _ _=>false) (λ _ _ _ _=>true) (λ _ _=>true) (λ _ _=>true) (λ _ _=>true) (λ _ _ _ _=>true) (λ _ _ _ _=>true) (λ _ _ _ _=>true) (λ _ _=>true) (λ _ _ _=>true) (λ _ _ _=>true) (λ _ _ _=>true) (λ _ _=>true) (λ _ _=>true) (λ _ _=>true) (λ _ _ _=>true) (λ _ _ _ _=>true)
noncomputable def noStar (e:Expr):Bool:=Expr.casesOn (motive_1:=λ _=>Bool) e (λ _ _ _=>true) (λ _ _ _=>true) (λ _ _ _ _=>true) (λ _ _ _=>true) (λ _ _ _ _=>true) (λ _ _ _ _=>true) (λ _ _ _=>true) (λ _ _ _=>true) (λ _ _ _ _=>true) (λ _ _ _ _=>true) (λ _ _ _ _ _=>true) (λ _ _ _ _=>true) (λ _ _=>true) (λ _ _=>true) (λ _ _=>true) (λ _ _ _ _=>true) (λ _ _ _ _=>true) (λ _ _ _ _=>true) (λ _ _=>true) (λ _ _ _=>true) (λ _ _ _=>true) (λ _ _ _=>true) (λ _ _=>false) (λ _ _=>true) (λ _ _=>true) (λ _ _ _=>true) (λ _ _ _ _=>true)
noncomputable def zkz (e:Expr):Bool:=Expr.casesOn (motive_1:=λ _=>Bool) e (λ _ _ _=>true) (λ _ _ _=>true) (λ _ _ _ _=>true) (λ _ _ _=>true) (λ _ _ _ _=>true) (λ _ _ _ _=>true) (λ _ _ _=>true) (λ _ _ _=>false) (λ _ _ _ _=>true) (λ _ _ _ _=>true) (λ _ _ _ _ _=>true) (λ _ _ _ _=>true) (λ _ _=>true) (λ _ _=>true) (λ _ _=>true) (λ _ _ _ _=>true) (λ _ _ _ _=>true) (λ _ _ _ _=>true) (λ _ _=>true) (λ _ _ _=>true) (λ _ _ _=>true) (λ _ _ _=>true) (λ _ _=>true) (λ _ _=>true) (λ _ _=>true) (λ _ _ _=>true) (λ _ _ _ _=>true)
noncomputable def zjn (e:Expr):Bool:=Expr.casesOn (motive_1:=λ _=>Bool) e (λ _ _ _=>true) (λ _ _ _=>true) (λ _ _ _ _=>true) (λ _ _ _=>true) (λ _ _ _ _=>true) (λ _ _ _ _=>true) (λ _ _ _=>true) (λ _ _ _=>true) (λ _ _ _ _=>true) (λ _ _ _ _=>true) (λ _ _ _ _ _=>true) (λ _ _ _ _=>true) (λ _ _=>true) (λ _ _=>true) (λ _ _=>true) (λ _ _ _ _=>true) (λ _ _ _ _=>true) (λ _ _ _ _=>true) (λ _ _=>true) (λ _ _ _=>true) (λ _ _ _=>true) (λ _ _ _=>true) (λ _ _=>true) (λ _ _=>true) (λ _ _=>true) (λ _ _ _=>true) (λ _ _ _ _=>false)
noncomputable def zjg (e:Expr):Bool:=Expr.casesOn (motive_1:=λ _=>Bool) e (λ _ _ _=>true) (λ _ _ _=>true) (λ _ _ _ _=>true) (λ _ _ _=>true) (λ _ _ _ _=>true) (λ _ _ _ _=>true) (λ _ _ _=>true) (λ _ _ _=>true) (λ _ _ _ _=>true) (λ _ _ _ _=>true) (λ _ _ _ _ _=>true) (λ _ _ _ _=>true) (λ _ _=>true) (λ _ _=>true) (λ _ _=>true) (λ _ _ _ _=>true) (λ f as ks _=>tr (zkm f) (λ _=>List.rec (some ()) (λ _ _ _=>none) as) none |> λ o=>Option.rec true (λ _=>List.rec false (λ _ _ _=>true) ks) o) (λ _ _ _ _=>true) (λ _ _=>true) (λ _ _ _=>true) (λ _ _ _=>true) (λ _ _ _=>true) (λ _ _=>true) (λ _ _=>true) (λ _ _=>true) (λ _ _ _=>true) (λ _ _ _ _=>true)
noncomputable def tupOk (t e:Expr):Bool:=Expr.casesOn (motive_1:=λ _=>Bool) t (λ _ _ _=>true) (λ _ _ _=>true) (λ _ _ _ _=>true) (λ _ _ _=>true) (λ _ _ _ _=>true) (λ _ _ _ _=>true) (λ _ _ _=>true) (λ _ _ _=>true) (λ _ _ _ _=>true) (λ _ _ _ _=>true) (λ _ _ _ _ _=>true) (λ _ _ _ _=>true) (λ _ _=>true) (λ _ _=>true) (λ _ _=>true) (λ _ _ _ _=>true) (λ _ _ _ _=>true) (λ _ _ _ _=>true) (λ _ _=>true) (λ _ _ _=>true) (λ _ _ _=>true) (λ _ _ _=>true) (λ _ _=>false) (λ _ _=>true) (λ _ _=>false) (λ _ _ _=>Option.rec true (λ vs=>vs.all (foldedForSure 8)) (oTup e)) (λ _ _ _ _=>true)
end
noncomputable def strOfS (s:Option Stmt):Str:=Option.rec "" (λ e=>Option.rec "" (λ c=>Option.rec "" (λ s=>s) (Const.str? c)) (zjz e)) (bd s Stmt.asg?)
noncomputable def zq9:Str:=strOfS (pw_pc0148_01.main.body[61]?)
noncomputable def lB (a b:List Nat):Bool:=List.rec (motive:=λ _=>List Nat→Bool) (λ b=>List.rec true (λ _ _ _=>false) b) (λ x _ ih b=>List.rec false (λ y r _=>Bool.rec false (ih r) (Nat.beq x y)) b) a b
noncomputable def sB (a b:Str):Bool:=lB a.cps.toList b.cps.toList
structure Tk where
 kd:Str
 wd:Str
 ix:Int
set_option genCtorIdx true in
inductive AV where
 | none
 | bool (b:Bool)
 | int (i:Int)
 | str (s:Str)
 | tup (l:List AV)
 | hnd (i:Nat)
 | gref (a:Nat)
 | blt (s:String)
 | typ (s:String)
 | tok (t:Tk)
 | fdict (l:List Str)
 | sp (l:List AV) (n:Nat)
 | lam (ps:List Str) (body:PySem.Expr) (sc:Scope) (caps:List (Str × AV))
 | off (h e k:Nat)
 | rtk (h:Nat)
 | rlen (h:Nat)
 | rlast (h:Nat)
 | res
set_option genCtorIdx true in
inductive Item where
 | tk (t:Tk)
 | sub (f:Nat) (hd:Tk) (tl:List Tk) (out:AV ⊕ Int)
set_option genCtorIdx true in
inductive Tape where
 | draw (limit value:Int)
 | call (f:Nat) (depth:Nat) (r:AV)
 | callo (f:Nat) (k:Nat) (r:AV)
set_option genCtorIdx true in
inductive HO where
 | lst (l:List AV)
 | inst (c:Nat) (f:List (Str × AV))
 | rdr (e k:Nat) (rest:List Item) (named:AV)
 | src (tape:List Tape)
 | exn (at_:AV)
 | lstf (l:List AV) (w:AV)
 | dead
structure St where
 loc:List (Str × AV)
 ho:List HO
set_option genCtorIdx true in
inductive Fl where
 | next | brk | cont
 | ret (v:AV)
set_option genCtorIdx true in
inductive Rs (α:Type) where
 | ok (a:α) (σ:St)
 | exc (ix:Int)
noncomputable abbrev Ou (α:Type):=Option (Rs α)
noncomputable def AV.str? (a:AV):Option (Str):=AV.casesOn (motive_1:=λ _=>Option (Str)) a Option.none (λ _=>Option.none) (λ _=>Option.none) (Option.some) (λ _=>Option.none) (λ _=>Option.none) (λ _=>Option.none) (λ _=>Option.none) (λ _=>Option.none) (λ _=>Option.none) (λ _=>Option.none) (λ _ _=>Option.none) (λ _ _ _ _=>Option.none) (λ _ _ _=>Option.none) (λ _=>Option.none) (λ _=>Option.none) (λ _=>Option.none) Option.none
noncomputable def AV.int? (a:AV):Option (Int):=AV.casesOn (motive_1:=λ _=>Option (Int)) a Option.none (λ _=>Option.none) (Option.some) (λ _=>Option.none) (λ _=>Option.none) (λ _=>Option.none) (λ _=>Option.none) (λ _=>Option.none) (λ _=>Option.none) (λ _=>Option.none) (λ _=>Option.none) (λ _ _=>Option.none) (λ _ _ _ _=>Option.none) (λ _ _ _=>Option.none) (λ _=>Option.none) (λ _=>Option.none) (λ _=>Option.none) Option.none
noncomputable def AV.bool? (a:AV):Option (Bool):=AV.casesOn (motive_1:=λ _=>Option (Bool)) a Option.none (Option.some) (λ _=>Option.none) (λ _=>Option.none) (λ _=>Option.none) (λ _=>Option.none) (λ _=>Option.none) (λ _=>Option.none) (λ _=>Option.none) (λ _=>Option.none) (λ _=>Option.none) (λ _ _=>Option.none) (λ _ _ _ _=>Option.none) (λ _ _ _=>Option.none) (λ _=>Option.none) (λ _=>Option.none) (λ _=>Option.none) Option.none
noncomputable def AV.tup? (a:AV):Option (List AV):=AV.casesOn (motive_1:=λ _=>Option (List AV)) a Option.none (λ _=>Option.none) (λ _=>Option.none) (λ _=>Option.none) (Option.some) (λ _=>Option.none) (λ _=>Option.none) (λ _=>Option.none) (λ _=>Option.none) (λ _=>Option.none) (λ _=>Option.none) (λ _ _=>Option.none) (λ _ _ _ _=>Option.none) (λ _ _ _=>Option.none) (λ _=>Option.none) (λ _=>Option.none) (λ _=>Option.none) Option.none
noncomputable def AV.hnd? (a:AV):Option (Nat):=AV.casesOn (motive_1:=λ _=>Option (Nat)) a Option.none (λ _=>Option.none) (λ _=>Option.none) (λ _=>Option.none) (λ _=>Option.none) (Option.some) (λ _=>Option.none) (λ _=>Option.none) (λ _=>Option.none) (λ _=>Option.none) (λ _=>Option.none) (λ _ _=>Option.none) (λ _ _ _ _=>Option.none) (λ _ _ _=>Option.none) (λ _=>Option.none) (λ _=>Option.none) (λ _=>Option.none) Option.none
noncomputable def AV.gref? (a:AV):Option (Nat):=AV.casesOn (motive_1:=λ _=>Option (Nat)) a Option.none (λ _=>Option.none) (λ _=>Option.none) (λ _=>Option.none) (λ _=>Option.none) (λ _=>Option.none) (Option.some) (λ _=>Option.none) (λ _=>Option.none) (λ _=>Option.none) (λ _=>Option.none) (λ _ _=>Option.none) (λ _ _ _ _=>Option.none) (λ _ _ _=>Option.none) (λ _=>Option.none) (λ _=>Option.none) (λ _=>Option.none) Option.none
noncomputable def AV.blt? (a:AV):Option (String):=AV.casesOn (motive_1:=λ _=>Option (String)) a Option.none (λ _=>Option.none) (λ _=>Option.none) (λ _=>Option.none) (λ _=>Option.none) (λ _=>Option.none) (λ _=>Option.none) (Option.some) (λ _=>Option.none) (λ _=>Option.none) (λ _=>Option.none) (λ _ _=>Option.none) (λ _ _ _ _=>Option.none) (λ _ _ _=>Option.none) (λ _=>Option.none) (λ _=>Option.none) (λ _=>Option.none) Option.none
noncomputable def AV.typ? (a:AV):Option (String):=AV.casesOn (motive_1:=λ _=>Option (String)) a Option.none (λ _=>Option.none) (λ _=>Option.none) (λ _=>Option.none) (λ _=>Option.none) (λ _=>Option.none) (λ _=>Option.none) (λ _=>Option.none) (Option.some) (λ _=>Option.none) (λ _=>Option.none) (λ _ _=>Option.none) (λ _ _ _ _=>Option.none) (λ _ _ _=>Option.none) (λ _=>Option.none) (λ _=>Option.none) (λ _=>Option.none) Option.none
noncomputable def AV.tok? (a:AV):Option (Tk):=AV.casesOn (motive_1:=λ _=>Option (Tk)) a Option.none (λ _=>Option.none) (λ _=>Option.none) (λ _=>Option.none) (λ _=>Option.none) (λ _=>Option.none) (λ _=>Option.none) (λ _=>Option.none) (λ _=>Option.none) (Option.some) (λ _=>Option.none) (λ _ _=>Option.none) (λ _ _ _ _=>Option.none) (λ _ _ _=>Option.none) (λ _=>Option.none) (λ _=>Option.none) (λ _=>Option.none) Option.none
noncomputable def AV.fdict? (a:AV):Option (List Str):=AV.casesOn (motive_1:=λ _=>Option (List Str)) a Option.none (λ _=>Option.none) (λ _=>Option.none) (λ _=>Option.none) (λ _=>Option.none) (λ _=>Option.none) (λ _=>Option.none) (λ _=>Option.none) (λ _=>Option.none) (λ _=>Option.none) (Option.some) (λ _ _=>Option.none) (λ _ _ _ _=>Option.none) (λ _ _ _=>Option.none) (λ _=>Option.none) (λ _=>Option.none) (λ _=>Option.none) Option.none
noncomputable def AV.rtk? (a:AV):Option (Nat):=AV.casesOn (motive_1:=λ _=>Option (Nat)) a Option.none (λ _=>Option.none) (λ _=>Option.none) (λ _=>Option.none) (λ _=>Option.none) (λ _=>Option.none) (λ _=>Option.none) (λ _=>Option.none) (λ _=>Option.none) (λ _=>Option.none) (λ _=>Option.none) (λ _ _=>Option.none) (λ _ _ _ _=>Option.none) (λ _ _ _=>Option.none) (Option.some) (λ _=>Option.none) (λ _=>Option.none) Option.none
noncomputable def AV.rlen? (a:AV):Option (Nat):=AV.casesOn (motive_1:=λ _=>Option (Nat)) a Option.none (λ _=>Option.none) (λ _=>Option.none) (λ _=>Option.none) (λ _=>Option.none) (λ _=>Option.none) (λ _=>Option.none) (λ _=>Option.none) (λ _=>Option.none) (λ _=>Option.none) (λ _=>Option.none) (λ _ _=>Option.none) (λ _ _ _ _=>Option.none) (λ _ _ _=>Option.none) (λ _=>Option.none) (Option.some) (λ _=>Option.none) Option.none
noncomputable def AV.rlast? (a:AV):Option (Nat):=AV.casesOn (motive_1:=λ _=>Option (Nat)) a Option.none (λ _=>Option.none) (λ _=>Option.none) (λ _=>Option.none) (λ _=>Option.none) (λ _=>Option.none) (λ _=>Option.none) (λ _=>Option.none) (λ _=>Option.none) (λ _=>Option.none) (λ _=>Option.none) (λ _ _=>Option.none) (λ _ _ _ _=>Option.none) (λ _ _ _=>Option.none) (λ _=>Option.none) (λ _=>Option.none) (Option.some) Option.none
noncomputable def AV.sp? (a:AV):Option (Nat):=AV.casesOn (motive_1:=λ _=>Option (Nat)) a Option.none (λ _=>Option.none) (λ _=>Option.none) (λ _=>Option.none) (λ _=>Option.none) (λ _=>Option.none) (λ _=>Option.none) (λ _=>Option.none) (λ _=>Option.none) (λ _=>Option.none) (λ _=>Option.none) (λ _ n=>Option.some n) (λ _ _ _ _=>Option.none) (λ _ _ _=>Option.none) (λ _=>Option.none) (λ _=>Option.none) (λ _=>Option.none) Option.none
noncomputable def AV.off? (a:AV):Option (Nat × Nat × Nat):=AV.casesOn (motive_1:=λ _=>Option (Nat × Nat × Nat)) a Option.none (λ _=>Option.none) (λ _=>Option.none) (λ _=>Option.none) (λ _=>Option.none) (λ _=>Option.none) (λ _=>Option.none) (λ _=>Option.none) (λ _=>Option.none) (λ _=>Option.none) (λ _=>Option.none) (λ _ _=>Option.none) (λ _ _ _ _=>Option.none) (λ h e k=>Option.some (h,e,k)) (λ _=>Option.none) (λ _=>Option.none) (λ _=>Option.none) Option.none
structure Lm where
 ps:List Str
 b:PySem.Expr
 sc:Scope
 caps:List (Str × AV)
noncomputable def AV.lam? (a:AV):Option Lm:=AV.casesOn (motive_1:=λ _=>Option Lm) a Option.none (λ _=>Option.none) (λ _=>Option.none) (λ _=>Option.none) (λ _=>Option.none) (λ _=>Option.none) (λ _=>Option.none) (λ _=>Option.none) (λ _=>Option.none) (λ _=>Option.none) (λ _=>Option.none) (λ _ _=>Option.none) (λ p b s c=>Option.some ⟨p,b,s,c⟩) (λ _ _ _=>Option.none) (λ _=>Option.none) (λ _=>Option.none) (λ _=>Option.none) Option.none
noncomputable def AV.isNone (a:AV):Bool:=AV.casesOn (motive_1:=λ _=>Bool) a (true) (λ _=>false) (λ _=>false) (λ _=>false) (λ _=>false) (λ _=>false) (λ _=>false) (λ _=>false) (λ _=>false) (λ _=>false) (λ _=>false) (λ _ _=>false) (λ _ _ _ _=>false) (λ _ _ _=>false) (λ _=>false) (λ _=>false) (λ _=>false) false
noncomputable def AV.isRes (a:AV):Bool:=AV.casesOn (motive_1:=λ _=>Bool) a false (λ _=>false) (λ _=>false) (λ _=>false) (λ _=>false) (λ _=>false) (λ _=>false) (λ _=>false) (λ _=>false) (λ _=>false) (λ _=>false) (λ _ _=>false) (λ _ _ _ _=>false) (λ _ _ _=>false) (λ _=>false) (λ _=>false) (λ _=>false) (true)
noncomputable def conS (a:AV):Bool:=AV.casesOn (motive_1:=λ _=>Bool) a false (λ _=>false) (λ _=>false) (λ _=>false) (λ _=>false) (λ _=>false) (λ _=>false) (λ _=>false) (λ _=>false) (λ _=>false) (λ _=>false) (λ _ _=>true) (λ _ _ _ _=>false) (λ _ _ _=>false) (λ _=>false) (λ _=>false) (λ _=>false) false
noncomputable def isNoneA (a:AV):Option Bool:=AV.casesOn (motive_1:=λ _=>Option Bool) a (Option.some true) (λ _=>Option.none) (λ _=>Option.none) (λ _=>Option.none) (λ _=>Option.some false) (λ _=>Option.none) (λ _=>Option.some false) (λ _=>Option.none) (λ _=>Option.none) (λ _=>Option.some false) (λ _=>Option.none) (λ _ _=>Option.none) (λ _ _ _ _=>Option.some false) (λ _ _ _=>Option.none) (λ _=>Option.none) (λ _=>Option.none) (λ _=>Option.none) Option.none
noncomputable def AV.nat? (a:AV):Option Nat:=bd a.int? AI.nat?
structure Rd where
 e:Nat
 k:Nat
 rest:List Item
 nm:AV
noncomputable def HO.lst? (o:HO):Option (List AV):=HO.casesOn (motive:=λ _=>Option (List AV)) o (some) (λ _ _=>none) (λ _ _ _ _=>none) (λ _=>none) (λ _=>none) (λ _ _=>none) none
noncomputable def HO.inst? (o:HO):Option (Nat × List (Str × AV)):=HO.casesOn (motive:=λ _=>Option (Nat × List (Str × AV))) o (λ _=>none) (λ c f=>some (c,f)) (λ _ _ _ _=>none) (λ _=>none) (λ _=>none) (λ _ _=>none) none
noncomputable def HO.rdr? (o:HO):Option Rd:=HO.casesOn (motive:=λ _=>Option Rd) o (λ _=>none) (λ _ _=>none) (λ e k r n=>some ⟨e,k,r,n⟩) (λ _=>none) (λ _=>none) (λ _ _=>none) none
noncomputable def HO.src? (o:HO):Option (List Tape):=HO.casesOn (motive:=λ _=>Option (List Tape)) o (λ _=>none) (λ _ _=>none) (λ _ _ _ _=>none) (some) (λ _=>none) (λ _ _=>none) none
noncomputable def HO.exn? (o:HO):Option AV:=HO.casesOn (motive:=λ _=>Option AV) o (λ _=>none) (λ _ _=>none) (λ _ _ _ _=>none) (λ _=>none) (some) (λ _ _=>none) none
noncomputable def HO.lstf? (o:HO):Option (List AV × AV):=HO.casesOn (motive:=λ _=>Option (List AV × AV)) o (λ _=>none) (λ _ _=>none) (λ _ _ _ _=>none) (λ _=>none) (λ _=>none) (λ l w=>some (l,w)) none
noncomputable def zkn (σ:St) (i:Nat):Option (List AV):=bd σ.ho[i]? HO.lst?
noncomputable def instAt (σ:St) (i:Nat):Option (Nat × List (Str × AV)):=bd σ.ho[i]? HO.inst?
noncomputable def zjk (σ:St) (i:Nat):Option Rd:=bd σ.ho[i]? HO.rdr?
noncomputable def srcAt (σ:St) (i:Nat):Option (List Tape):=bd σ.ho[i]? HO.src?
noncomputable def exnAt (σ:St) (i:Nat):Option AV:=bd σ.ho[i]? HO.exn?
noncomputable def lstfAt (σ:St) (i:Nat):Option (List AV × AV):=bd σ.ho[i]? HO.lstf?
noncomputable def bnd {α β:Type}(x:Ou α) (k:α→St→Ou β):Ou β:=Option.rec none (λ r=>Rs.rec k (λ i=>some (.exc i)) r) x
noncomputable def lft {α β:Type}(x:Option α) (k:α→Ou β):Ou β:=Option.rec none k x
noncomputable def ok {α:Type}(a:α) (σ:St):Ou α:=some (.ok a σ)
noncomputable def zqm {α:Type}(x:Str) (l:List (Str × α)):Option α:=List.rec none (λ p _ ih=>cd (sB p.1 x) (some p.2) ih) l
noncomputable abbrev zqn (x:Str) (l:List (Str × AV)):Option AV:=zqm x l
noncomputable def zza (x:Str) (v:AV) (l:List (Str × AV)):List (Str × AV):=List.rec [(x,v)] (λ p l ih=>cd (sB p.1 x) ((p.1,v)::l) (p::ih)) l
noncomputable def zj6 {α:Type}(a:Nat) (l:List (Nat × α)):Option α:=List.rec none (λ p _ ih=>cd (Nat.beq p.1 a) (some p.2) ih) l
noncomputable abbrev zq2 (x:Str) (l:List (Str × NameKind)):Option NameKind:=zqm x l
noncomputable def wtA (l:List AV):Nat:=List.rec 0 (λ a _ ih=>Option.rec (ih + 1) (λ n=>n + ih) a.sp?) l
noncomputable def zqc (l:List AV):Bool:=List.rec true (λ a _ ih=>cd (conS a) false ih) l
noncomputable def nthA (l:List AV):Nat→Option AV:=List.rec (λ _=>none) (λ a _ ih k=>cd (conS a) none (Nat.rec (some a) (λ k _=>ih k) k)) l
structure Fn where
 params:List Str
 dfl:List AV
 body:List Stmt
 scope:Scope
structure Out where
 fn:Nat→Option Fn
 meth:Nat→Str→Option Nat
 glob:Str→Option AV
 dict:Nat→Option (List (Str × Str))
 init:Nat→Option Nat
 prim:Nat→List AV→St→Option (Ou AV)
 can:Nat→Bool
 split:Str→Option (List Str)
 within:Str→Str→Option Bool
 res:Str→Option Bool
 lam:Bool
structure Rec where
 E:Scope→PySem.Expr→St→Ou AV
 T:Scope→PySem.Expr→St→Ou Bool
 S:Scope→Stmt→St→Ou Fl
 W:Scope→PySem.Expr→List Stmt→St→Ou Fl
 C:AV→List AV→St→Ou AV
noncomputable def truthA (σ:St) (a:AV):Option Bool:=tr a.rtk? (λ i=>bd (zjk σ i) λ r=>List.rec none (λ _ _ _=>some true) r.rest) (tr a.bool? some (tr a.int? (λ i=>some (!decide (i=0))) (gd a.isNone (some false))))
noncomputable def strsOf (l:List AV):Option (List Str):=List.rec (some []) (λ a _ ih=>bd a.str? λ y=>mp (y::·) ih) l
noncomputable def zxc (x:Str) (l:List Str):Bool:=List.rec false (λ p _ ih=>cd (sB p x) true ih) l
noncomputable def Item.hd (i:Item):Tk:=Item.rec (λ t=>t) (λ _ t _ _=>t) i
noncomputable def Item.isTk (i:Item):Bool:=Item.rec (λ _=>true) (λ _ _ _ _=>false) i
noncomputable def peekI (l:List Item):Nat→Option Tk:=List.rec (λ _=>none) (λ i _ ih k=>Nat.rec (some i.hd) (λ k _=>gd i.isTk (ih k)) k) l
noncomputable def dropI (l:List Item):Nat→Option (List Item):=List.rec (λ k=>Nat.rec (some []) (λ _ _=>none) k) (λ i r ih k=>Nat.rec (some (i::r)) (λ k _=>gd i.isTk (ih k)) k) l
noncomputable def placeA (σ:St) (h e k:Nat):Option Tk:=bd (zjk σ h) λ r=>gd (Nat.beq r.e e) (gd (Nat.ble r.k k) (peekI r.rest (k - r.k)))
noncomputable def cmpTup (l r:List AV):Option Bool:=List.rec (List.rec (some true) (λ a _ _=>gd (!conS a) (some false)) l) (λ _ _ _=>none) r
noncomputable def cmpEq (a b:AV):Option Bool:=tr a.str? (λ x=>mp (sB x) b.str?) (tr a.int? (λ x=>mp (λ y=>decide (x=y)) b.int?) (bd a.tup? λ l=>bd b.tup? (cmpTup l)))
noncomputable def cmpNe (a b:AV):Option Bool:=bd a.str? λ x=>mp (λ y=>!sB x y) b.str?
noncomputable def cmpLt (σ:St) (a b:AV):Option Bool:=tr a.off? (λ p=>bd b.rlen? λ h=>gd (Nat.beq p.1 h) (mp (λ _=>true) (placeA σ p.1 p.2.1 p.2.2))) (bd a.int? λ x=>mp (λ y=>decide (x < y)) b.int?)
noncomputable def cmpGt (a b:AV):Option Bool:=bd a.int? λ x=>mp (λ y=>decide (y < x)) b.int?
noncomputable def cmpGe (a b:AV):Option Bool:=bd a.int? λ x=>mp (λ y=>decide (y≤x)) b.int?
noncomputable def cmpIs (a b:AV):Option Bool:=gd b.isNone (isNoneA a)
noncomputable def cmpIn (O:Out) (a b:AV):Option Bool:=bd a.str? λ x=>tr b.str? (λ y=>O.within x y) (tr b.tup? (λ l=>mp (zxc x) (strsOf l)) (tr b.gref? (λ d=>mp (λ l=>(zqm x l).isSome) (O.dict d)) (tr b.fdict? (λ l=>some (zxc x l)) (gd b.isRes (O.res x)))))
noncomputable def cmpNi (O:Out) (a b:AV):Option Bool:=bd a.str? λ x=>tr b.tup? (λ l=>mp (λ ys=>!zxc x ys) (strsOf l)) (bd b.gref? λ d=>mp (λ l=>!(zqm x l).isSome) (O.dict d))
noncomputable def cmpA (O:Out) (σ:St) (op:CmpOp) (a b:AV):Option Bool:=CmpOp.rec (cmpEq a b) (cmpNe a b) (cmpLt σ a b) none (cmpGt a b) (cmpGe a b) (cmpIs a b) (mp (!·) (cmpIs a b)) (cmpIn O a b) (cmpNi O a b) op
noncomputable def binAdd (a b:AV):Option AV:=tr a.off? (λ p=>mp (λ n=>.off p.1 p.2.1 (p.2.2 + n)) b.nat?) (tr a.int? (λ x=>mp (λ y=>.int (x + y)) b.int?)
 (tr a.tup? (λ x=>bd b.tup? λ y=>gd (Nat.ble (wtA x + wtA y) 100000) (some (.tup (x++y)))) (bd a.str? λ x=>bd b.str? λ y=>gd (Nat.ble (x.length + y.length) 100000) (some (.str (x++y))))))
noncomputable def binSub (a b:AV):Option AV:=tr a.rlen? (λ h=>bd b.nat? λ n=>gd (Nat.beq n 1) (some (.rlast h))) (bd a.int? λ x=>mp (λ y=>.int (x - y)) b.int?)
noncomputable def binMul (a b:AV):Option AV:=bd a.tup? λ x=>bd b.nat? λ n=>gd (Nat.ble n 1000) (bd (one? x) λ e=>mp (λ s=>.tup (List.replicate n (.str s))) e.str?)
noncomputable def binA (op:Operator) (a b:AV):Option AV:=Operator.rec (binAdd a b) (binSub a b) (binMul a b) none none none none none none none none none none op
noncomputable def attrTab:List (Nat × List Str):=[(372,["reader", "is_named", "depth", "last"]),(452,["kind", "worth", "at", "is_in_a"]),(637,["tokens", "at", "named"])]
noncomputable def zzi (c:Nat) (n:Str):Bool:=Option.rec false (zxc n) (zj6 c attrTab)
noncomputable def attrT (t:Tk) (n:Str):Option AV:=cd (sB n "kind") (some (.str t.kd)) (cd (sB n "worth") (some (.str t.wd)) (gd (sB n "at") (some (.tup [.int 3,.int (t.ix + 1)]))))
noncomputable def attrR (i:Nat) (r:Rd) (n:Str):Option AV:=cd (sB n "named") (some r.nm) (cd (sB n "at") (some (.off i r.e r.k)) (gd (sB n "tokens") (some (.rtk i))))
noncomputable def attrA (σ:St) (o:AV) (n:Str):Option AV:=tr o.tok? (λ t=>attrT t n) (bd o.hnd? λ i=>tr (instAt σ i) (λ p=>gd (zzi p.1 n) (zqn n p.2)) (bd (zjk σ i) λ r=>attrR i r n))
noncomputable def itemN (l:List AV) (k:Int):Option AV:=bd (nat? k) λ k=>gd (Nat.ble k 1000) (nthA l k)
noncomputable def itemH (σ:St) (h:Nat) (i:AV):Option AV:=tr i.int? (λ k=>bd (zkn σ h) λ l=>itemN l k) (bd i.off? λ p=>gd (Nat.beq h p.1) (gd (Nat.beq p.2.1 0) (gd (Nat.beq p.2.2 0) (mp (·.2) (lstfAt σ h)))))
noncomputable def itemS (s:Str) (k:Int):Option AV:=bd (nat? k) λ k=>gd (Nat.ble k 1000) (mp (λ c=>.str ⟨#[c]⟩) s.cps.toList[k]?)
noncomputable def itemA (O:Out) (σ:St) (o i:AV):Option AV:=tr o.tup? (λ l=>bd i.int? (itemN l)) (tr o.hnd? (λ h=>itemH σ h i) (tr o.gref? (λ d=>bd i.str? λ x=>bd (O.dict d) λ l=>mp .str (zqm x l))
 (tr o.rtk? (λ h=>bd i.off? λ p=>gd (Nat.beq h p.1) (mp .tok (placeA σ h p.2.1 p.2.2))) (bd o.str? λ s=>bd i.int? (itemS s)))))
noncomputable def bindA (ps:List Str):List AV→List AV→Option (List (Str × AV)):=List.rec (λ as _=>List.rec (some []) (λ _ _ _=>none) as)
 (λ p ps ih as d=>List.rec (gd (Nat.ble (ps.length + 1) d.length) (List.rec none (λ a _ _=>mp ((p,a)::·) (ih [] d)) (d.drop (d.length - (ps.length + 1))))) (λ a as _=>mp ((p,a)::·) (ih as d)) as) ps
noncomputable def lenA (l:List AV):Option AV:=gd (zqc l) (gd (Nat.ble l.length 100000) (some (.int l.length)))
noncomputable def builtinL (a:AV) (σ:St):Option AV:=tr a.rtk? (λ h=>mp (λ _=>.rlen h) (zjk σ h)) (tr a.tup? lenA (bd a.hnd? λ i=>bd (zkn σ i) lenA))
noncomputable def builtinM (a b:AV) (σ:St):Option AV:=bd a.off? λ p=>bd b.rlast? λ h=>gd (Nat.beq p.1 h) (mp (λ _=>.off p.1 p.2.1 p.2.2) (placeA σ p.1 p.2.1 p.2.2))
noncomputable def builtinA (s:String) (args:List AV) (σ:St):Option AV:=tr (one? args) (λ a=>gd (decide (s = "len")) (builtinL a σ)) (bd (two? args) λ p=>gd (decide (s = "min")) (builtinM p.1 p.2 σ))
noncomputable def typeA (s:String) (args:List AV) (σ:St):Option AV:=bd (one? args) λ a=>bd a.hnd? λ i=>bd (zkn σ i) λ l=>gd (decide (s = "tuple")) (gd (Nat.ble (wtA l) 100000) (some (.tup l)))
noncomputable def constA (c:Const):Option AV:=Const.casesOn (motive:=λ _=>Option AV) c (Option.some .none) (λ b=>Option.some (.bool b)) (λ i=>Option.some (.int i)) (λ _=>Option.none) (λ _ _=>Option.none) (λ s=>Option.some (.str s)) (λ _=>Option.none) Option.none
structure TabI where
 P:Addr
 line:Int
 col:Int
 q:Str
noncomputable def zxe (sc:Scope):Option TabI:=match zq2 "depth" sc.names with
 | some .cell=>some ⟨232,174,36, "read_primary.<locals>.<lambda>"⟩
 | _=>match zq2 "reader" sc.names with
  | some .cell=>some ⟨379,307,39, "read_condition.<locals>.<lambda>"⟩
  | _=>none
noncomputable def NameKind.loc (k:NameKind):Bool:=NameKind.rec true false false false false k
noncomputable def NameKind.cel (k:NameKind):Bool:=NameKind.rec false true false false false k
noncomputable def NameKind.fre (k:NameKind):Bool:=NameKind.rec false false true false false k
noncomputable def zzg (l:List (Str × NameKind)):List Str:=List.rec [] (λ p _ ih=>cd (NameKind.fre p.2) (p.1::ih) ih) l
noncomputable def zqt (sc:Scope) (x:Str):Bool:=Option.rec false NameKind.loc (zq2 x sc.names)
noncomputable def isCel (sc:Scope) (x:Str):Bool:=Option.rec false NameKind.cel (zq2 x sc.names)
noncomputable def isFree (sc:Scope) (x:Str):Bool:=Option.rec false NameKind.fre (zq2 x sc.names)
noncomputable def nodS (l:List Str):Bool:=List.rec true (λ x r ih=>cd (zxc x r) false ih) l
noncomputable def nameOn (sc:Scope) (line:Nat) (e:PySem.Expr):Option Str:=bd (zkm e) λ p=>gd (sc.names.lookup p.1 == some .local && p.2.line == line) (some p.1)
noncomputable def namesOn (sc:Scope) (line:Nat) (l:List PySem.Expr):Option (List Str):=List.rec (some []) (λ t _ ih=>bd (nameOn sc line t) λ x=>mp (x::·) ih) l
noncomputable def swapA (sc:Scope) (t e:PySem.Expr):Option (List Str):=bd (oTup t) λ ts=>bd (oTup e) λ vs=>bd ts.head? λ t₀=>bd (namesOn sc t₀.pos.line ts) λ ns=>
 gd ((ns.length == 2 || ns.length == 3) && vs.length == ns.length && vs.all noStar && ns.eraseDups.length == ns.length && !vs.all (foldedForSure 8) && !vs.all (constantsAlone 8)) (some ns)
variable (O:Out)
noncomputable def evEs (R:Rec) (sc:Scope) (es:List PySem.Expr):St→Ou (List AV):=List.rec (λ σ=>ok [] σ) (λ e _ ih σ=>gd (noStar e) (bnd (R.E sc e σ) λ v σ=>bnd (ih σ) λ vs σ=>ok (v::vs) σ)) es
noncomputable def stopB (op:BoolOp) (t:Bool):Bool:=BoolOp.rec (!t) t op
noncomputable def evBool (R:Rec) (sc:Scope) (op:BoolOp) (es:List PySem.Expr):St→Ou AV:=List.rec (λ _=>none) (λ x r ih σ=>List.rec (R.E sc x σ) (λ _ _ _=>bnd (R.E sc x σ) λ v σ=>lft (truthA σ v) λ t=>cd (stopB op t) (ok v σ) (ih σ)) r) es
noncomputable def evTest (R:Rec) (sc:Scope) (op:BoolOp) (es:List PySem.Expr):St→Ou Bool:=List.rec (λ σ=>ok (BoolOp.rec true false op) σ) (λ x _ ih σ=>bnd (R.T sc x σ) λ b σ=>cd (stopB op b) (ok b σ) (ih σ)) es
noncomputable def asLoc (sc:Scope) (x:Str) (v:AV) (σ:St):Option St:=gd (zqt sc x) (some { σ with loc:=zza x v σ.loc })
noncomputable def zks (sc:Scope) (t:PySem.Expr) (v:AV) (σ:St):Option St:=bd (zkm t) λ p=>asLoc sc p.1 v σ
noncomputable def asNames (sc:Scope) (ts:List PySem.Expr):List AV→St→Option St:=List.rec (λ vs σ=>List.rec (some σ) (λ _ _ _=>none) vs) (λ t _ ih vs σ=>List.rec none (λ v vs _=>bd (zks sc t v σ) λ σ'=>ih vs σ') vs) ts
noncomputable def asNs (sc:Scope) (xs:List Str):List AV→St→Option St:=List.rec (λ vs σ=>List.rec (some σ) (λ _ _ _=>none) vs) (λ x _ ih vs σ=>List.rec none (λ v vs _=>bd (asLoc sc x v σ) λ σ'=>ih vs σ') vs) xs
noncomputable def armSetI (i:Nat) (n:Str) (v:AV) (σ:St) (c:Nat) (f:List (Str × AV)):Ou Unit:=gd (zzi c n) (gd (Nat.ble f.length 100) (ok () { σ with ho:=σ.ho.set i (.inst c (zza n v f)) }))
noncomputable def armSetR (i:Nat) (n:Str) (v:AV) (σ:St) (r:Rd):Ou Unit:=gd (sB n "at") (lft v.off? λ p=>gd (Nat.beq p.1 i) (gd (Nat.beq p.2.1 r.e) (gd (Nat.ble r.k p.2.2) (lft (dropI r.rest (p.2.2 - r.k)) λ r'=>ok () { σ with ho:=σ.ho.set i (.rdr r.e p.2.2 r' r.nm) }))))
noncomputable def armSet (n:Str) (v ov:AV) (σ:St):Ou Unit:=lft ov.hnd? λ i=>tr (instAt σ i) (λ p=>armSetI i n v σ p.1 p.2) (lft (zjk σ i) (armSetR i n v σ))
noncomputable def evAs (R:Rec) (sc:Scope) (t:PySem.Expr) (v:AV) (σ:St):Ou Unit:=PySem.Expr.casesOn (motive_1:=λ _=>Ou Unit) t (λ _ _ _=>none) (λ _ _ _=>none) (λ _ _ _ _=>none) (λ _ _ _=>none) (λ _ _ _ _=>none) (λ _ _ _ _=>none) (λ _ _ _=>none) (λ _ _ _=>none) (λ _ _ _ _=>none) (λ _ _ _ _=>none) (λ _ _ _ _ _=>none) (λ _ _ _ _=>none) (λ _ _=>none) (λ _ _=>none) (λ _ _=>none) (λ _ _ _ _=>none) (λ _ _ _ _=>none) (λ _ _ _ _=>none) (λ _ _=>none) (λ _ _ _=>none) (λ o n _=>lft (zkm o) λ _=>bnd (R.E sc o σ) λ ov σ=>armSet n v ov σ) (λ _ _ _=>none) (λ _ _=>none) (λ x _=>lft (asLoc sc x v σ) λ σ=>ok () σ) (λ _ _=>none) (λ ts _ _=>lft v.tup? λ vs=>gd (zqc vs) (lft (asNames sc ts vs σ) λ σ=>ok () σ)) (λ _ _ _ _=>none)
noncomputable def Fl.fin (f:Fl) (σ:St) (k:Ou Fl):Ou Fl:=Fl.rec k (ok .brk σ) (ok .cont σ) (λ v=>ok (.ret v) σ) f
noncomputable def evSs (R:Rec) (sc:Scope) (l:List Stmt):St→Ou Fl:=List.rec (λ σ=>ok .next σ) (λ s _ ih σ=>bnd (R.S sc s σ) λ f σ=>f.fin σ (ih σ)) l
noncomputable def zjf (R:Rec) (sc:Scope) (t:PySem.Expr) (a:List Stmt) (l:List AV):St→Ou Fl:=List.rec (λ σ=>ok .next σ) (λ v _ ih σ=>lft (zks sc t v σ) λ σ=>Option.rec none (λ r=>Rs.rec (λ f σ=>Fl.rec (ih σ) (ok .next σ) (ih σ) (λ v=>ok (.ret v) σ) f) (λ _=>none) r) (evSs R sc a σ)) l
noncomputable def canA (f:AV):Bool:=AV.casesOn (motive_1:=λ _=>Bool) f false (λ _=>false) (λ _=>false) (λ _=>false) (λ _=>false) (λ _=>false) (λ a=>O.can a) (λ _=>true) (λ _=>true) (λ _=>false) (λ _=>false) (λ _ _=>false) (λ _ _ _ _=>true) (λ _ _ _=>false) (λ _=>false) (λ _=>false) (λ _=>false) false
noncomputable def callA (R:Rec) (f:AV) (args:List AV) (σ:St):Ou AV:=Option.rec (Option.rec (R.C f args σ) (λ s=>lft (typeA s args σ) λ v=>ok v σ) f.typ?) (λ s=>lft (builtinA s args σ) λ v=>ok v σ) f.blt?
inductive Cal where
 | fn (f:AV) (pre:List AV)
 | app (i:Nat)
 | spl (s:Str)
noncomputable def calI (o:AV) (n:Str) (p:Nat × List (Str × AV)):Option Cal:=Option.rec (mp (λ f=>.fn (.gref f) [o]) (O.meth p.1 n)) (λ g=>gd (zzi p.1 n) (some (.fn g []))) (zqn n p.2)
noncomputable def calA (o:AV) (n:Str) (σ:St):Option Cal:=tr o.str? (λ s=>gd (sB n "split") (some (.spl s))) (bd o.hnd? λ i=>tr (zkn σ i) (λ _=>gd (sB n "append") (some (.app i))) (tr (zjk σ i) (λ _=>mp (λ f=>.fn (.gref f) [o]) (O.meth 637 n)) (bd (instAt σ i) (calI O o n))))
noncomputable def canC (c:Cal):Bool:=Cal.rec (λ f _=>canA O f) (λ _=>true) (λ _=>true) c
noncomputable def doApp (i:Nat) (as:List AV) (σ:St):Ou AV:=bd (zkn σ i) λ l=>bd (one? as) λ v=>gd (Nat.ble (wtA l) 100000) (ok .none { σ with ho:=σ.ho.set i (.lst (l++[v])) })
noncomputable def doSpl (s:Str) (as:List AV) (σ:St):Ou AV:=bd (one? as) λ a=>bd a.str? λ d=>gd (sB d " ") (gd (Nat.ble s.length 1000) (lft (O.split s) λ l=>gd (Nat.ble l.length 1000) (ok (.hnd σ.ho.length) { σ with ho:=σ.ho++[.lst (l.map .str)] })))
noncomputable def doCal (R:Rec) (c:Cal) (as:List AV) (σ:St):Ou AV:=Cal.rec (λ f pre=>callA R f (pre++as) σ) (λ i=>doApp i as σ) (λ s=>doSpl O s as σ) c
noncomputable def cStr (e:Option PySem.Expr):Option Str:=bd e λ e=>bd (zjz e) Const.str?
noncomputable def Const.isBool (c:Const):Bool:=Const.casesOn (motive:=λ _=>Bool) c false (λ _=>true) (λ _=>false) (λ _=>false) (λ _ _=>false) (λ _=>false) (λ _=>false) false
noncomputable def cBool (e:PySem.Expr):Bool:=Option.rec false Const.isBool (zjz e)
noncomputable def dictA (ks:List (Option PySem.Expr)) (vs:List PySem.Expr):Option (List Str):=List.rec (List.rec (some []) (λ _ _ _=>none) vs) (λ _ _ _=>bd (one? ks) λ k=>bd (one? vs) λ v=>gd (cBool v) (mp (λ x=>[x]) (cStr k))) ks
noncomputable def zju (sc:Scope) (x:Str) (σ:St):Ou AV:=cd (sB x "__debug__") none (lft (zq2 x sc.names) λ k=>NameKind.rec (lft (zqn x σ.loc) λ v=>ok v σ) (lft (zqn x σ.loc) λ v=>ok v σ) (cd (sB x "__classdict__") none (lft (zqn x σ.loc) λ v=>ok v σ)) none (lft (O.glob x) λ v=>ok v σ) k)
noncomputable def armBin (R:Rec) (sc:Scope) (l r:PySem.Expr) (op:Operator) (σ:St):Ou AV:=bnd (R.E sc l σ) λ a σ=>bnd (R.E sc r σ) λ b σ=>lft (binA op a b) λ v=>ok v σ
noncomputable def armNot (R:Rec) (sc:Scope) (x:PySem.Expr) (σ:St):Ou AV:=bnd (R.E sc x σ) λ v σ=>lft (truthA σ v) λ t=>ok (.bool (!t)) σ
noncomputable def armIf (R:Rec) (sc:Scope) (t a b:PySem.Expr) (σ:St):Ou AV:=bnd (R.T sc t σ) λ c σ=>cd c (R.E sc a σ) (R.E sc b σ)
noncomputable def armTup (R:Rec) (sc:Scope) (es:List PySem.Expr) (σ:St):Ou AV:=bnd (evEs R sc es σ) λ vs σ=>gd (Nat.ble (wtA vs) 100000) (ok (.tup vs) σ)
noncomputable def armLst (R:Rec) (sc:Scope) (es:List PySem.Expr) (σ:St):Ou AV:=bnd (evEs R sc es σ) λ vs σ=>gd (Nat.ble (wtA vs) 100000) (ok (.hnd σ.ho.length) { σ with ho:=σ.ho++[.lst vs] })
noncomputable def zjv (R:Rec) (sc:Scope) (l r:PySem.Expr) (op:CmpOp) (σ:St):Ou Bool:=bnd (R.E sc l σ) λ a σ=>bnd (R.E sc r σ) λ b σ=>lft (cmpA O σ op a b) λ c=>ok c σ
noncomputable def armCmp (R:Rec) (sc:Scope) (l r:PySem.Expr) (op:CmpOp) (σ:St):Ou AV:=bnd (zjv O R sc l r op σ) λ c σ=>ok (.bool c) σ
noncomputable def armAtt (R:Rec) (sc:Scope) (v:PySem.Expr) (n:Str) (σ:St):Ou AV:=bnd (R.E sc v σ) λ o σ=>lft (attrA σ o n) λ v=>ok v σ
noncomputable def armSub (R:Rec) (sc:Scope) (v i:PySem.Expr) (σ:St):Ou AV:=bnd (R.E sc v σ) λ o σ=>bnd (R.E sc i σ) λ k σ=>lft (itemA O σ o k) λ v=>ok v σ
noncomputable def isNil {α:Type}(l:List α):Bool:=List.rec true (λ _ _ _=>false) l
noncomputable def plainArgs (as:Arguments):Option (List Arg):=gd (isNil as.posonlyargs && as.vararg.isNone && isNil as.kwonlyargs && isNil as.kw_defaults && as.kwarg.isNone && isNil as.defaults) (some as.args)
noncomputable def armLam (sc:Scope) (as:Arguments) (b:PySem.Expr) (s:Scope) (pos:Pos) (σ:St):Ou AV:=gd O.lam (bd (plainArgs as) λ args=>bd (zxe sc) λ i=>gd (decide (i.line=pos.line) && decide (i.col=pos.col) && nodS (args.map (·.arg))) (bd (one? (zzg s.names)) λ x=>gd (isCel sc x) (lft (zqn x σ.loc) λ v=>ok (.lam (args.map (·.arg)) b s [(x,v)]) σ)))
noncomputable def armMeth (R:Rec) (sc:Scope) (o:PySem.Expr) (n:Str) (as:List PySem.Expr) (σ:St):Ou AV:=bnd (R.E sc o σ) λ ov σ=>lft (calA O ov n σ) λ c=>gd (canC O c) (bnd (evEs R sc as σ) λ vs σ=>gd (zqc vs) (doCal O R c vs σ))
noncomputable def armFun (R:Rec) (sc:Scope) (x:PySem.Expr) (as:List PySem.Expr) (σ:St):Ou AV:=bnd (R.E sc x σ) λ fv σ=>gd (canA O fv) (bnd (evEs R sc as σ) λ vs σ=>gd (zqc vs) (callA R fv vs σ))
inductive EV where
 | const (c:Const)
 | name (x:Str)
 | bool (op:BoolOp) (vs:List PySem.Expr)
 | bin (l r:PySem.Expr) (op:Operator)
 | not (x:PySem.Expr)
 | ite (t a b:PySem.Expr)
 | tup (es:List PySem.Expr)
 | lst (es:List PySem.Expr)
 | cmp (l r:PySem.Expr) (op:CmpOp)
 | att (v:PySem.Expr) (n:Str)
 | sub (v i:PySem.Expr)
 | dict (l:Option (List Str))
 | lam (as:Arguments) (b:PySem.Expr) (s:Scope) (pos:Pos)
 | meth (o:PySem.Expr) (n:Str) (as:List PySem.Expr)
 | fn (x:PySem.Expr) (as:List PySem.Expr)
 | no
noncomputable def isNot (op:UnaryOp):Bool:=UnaryOp.rec false true false false op
noncomputable def viewC (f:PySem.Expr) (as:List PySem.Expr) (ps:Pos):EV:=PySem.Expr.casesOn (motive_1:=λ _=>EV) f (λ _ _ _=>.no) (λ _ _ _=>.no) (λ _ _ _ _=>.no) (λ _ _ _=>.no) (λ _ _ _ _=>.no) (λ _ _ _ _=>.no) (λ _ _ _=>.no) (λ _ _ _=>.no) (λ _ _ _ _=>.no) (λ _ _ _ _=>.no) (λ _ _ _ _ _=>.no) (λ _ _ _ _=>.no) (λ _ _=>.no) (λ _ _=>.no) (λ _ _=>.no) (λ _ _ _ _=>.no) (λ _ _ _ _=>.no) (λ _ _ _ _=>.no) (λ _ _=>.no) (λ _ _ _=>.no) (λ o n ap=>cd (zjg o && Nat.beq ap.endLine ps.line && Nat.ble as.length 8 && as.all noStar) (.meth o n as) .no) (λ _ _ _=>.no) (λ _ _=>.no) (λ x q=>cd (as.all noStar) (.fn (.Name x q) as) .no) (λ _ _=>.no) (λ _ _ _=>.no) (λ _ _ _ _=>.no)
noncomputable def viewE (e:PySem.Expr):EV:=PySem.Expr.casesOn (motive_1:=λ _=>EV) e (λ op vs _=>.bool op vs) (λ _ _ _=>.no) (λ l op r _=>.bin l r op) (λ op x _=>cd (isNot op) (.not x) .no) (λ as b s pos=>.lam as b s pos) (λ t a b _=>.ite t a b) (λ ks vs _=>.dict (dictA ks vs)) (λ _ _ _=>.no) (λ _ _ _ _=>.no) (λ _ _ _ _=>.no) (λ _ _ _ _ _=>.no) (λ _ _ _ _=>.no) (λ _ _=>.no) (λ _ _=>.no) (λ _ _=>.no) (λ l ops rs _=>Option.rec .no (λ op=>Option.rec .no (λ r=>cd (zkz r) (.cmp l r op) .no) (one? rs)) (one? ops)) (λ f as ks ps=>List.rec (viewC f as ps) (λ _ _ _=>.no) ks) (λ _ _ _ _=>.no) (λ _ _=>.no) (λ c _ _=>.const c) (λ v n _=>cd (zjg v) (.att v n) .no) (λ v i _=>cd (zjn i) (.sub v i) .no) (λ _ _=>.no) (λ x _=>.name x) (λ es _=>.lst es) (λ es _ _=>.tup es) (λ _ _ _ _=>.no)
noncomputable def stepV (R:Rec) (sc:Scope) (v:EV) (σ:St):Ou AV:=EV.rec (λ c=>lft (constA c) λ v=>ok v σ) (λ x=>zju O sc x σ) (λ op vs=>evBool R sc op vs σ) (λ l r op=>armBin R sc l r op σ) (λ x=>armNot R sc x σ) (λ t a b=>armIf R sc t a b σ)
 (λ es=>armTup R sc es σ) (λ es=>armLst R sc es σ) (λ l r op=>armCmp O R sc l r op σ) (λ v n=>armAtt R sc v n σ) (λ v i=>armSub O R sc v i σ) (λ l=>lft l λ l=>ok (.fdict l) σ) (λ as b s pos=>armLam O sc as b s pos σ) (λ o n as=>armMeth O R sc o n as σ) (λ x as=>armFun O R sc x as σ) none v
noncomputable def zke (R:Rec) (sc:Scope) (e:PySem.Expr) (σ:St):Ou AV:=stepV O R sc (viewE e) σ
inductive TV where
 | not (x:PySem.Expr)
 | bool (op:BoolOp) (vs:List PySem.Expr)
 | ite (t a b:PySem.Expr)
 | cmp (l r:PySem.Expr) (op:CmpOp)
 | no
 | val
noncomputable def viewT (e:PySem.Expr):TV:=PySem.Expr.casesOn (motive_1:=λ _=>TV) e (λ op vs _=>.bool op vs) (λ _ _ _=>.val) (λ _ _ _ _=>.val) (λ op x _=>cd (isNot op) (.not x) .val) (λ _ _ _ _=>.val) (λ t a b _=>.ite t a b) (λ _ _ _=>.val) (λ _ _ _=>.val) (λ _ _ _ _=>.val) (λ _ _ _ _=>.val) (λ _ _ _ _ _=>.val) (λ _ _ _ _=>.val) (λ _ _=>.val) (λ _ _=>.val) (λ _ _=>.val) (λ l ops rs _=>Option.rec .no (λ op=>Option.rec .no (λ r=>cd (zkz r) (.cmp l r op) .no) (one? rs)) (one? ops)) (λ _ _ _ _=>.val) (λ _ _ _ _=>.val) (λ _ _=>.val) (λ _ _ _=>.val) (λ _ _ _=>.val) (λ _ _ _=>.val) (λ _ _=>.val) (λ _ _=>.val) (λ _ _=>.val) (λ _ _ _=>.val) (λ _ _ _ _=>.val)
noncomputable def stepTV (R:Rec) (sc:Scope) (e:PySem.Expr) (v:TV) (σ:St):Ou Bool:=TV.rec (λ x=>bnd (R.T sc x σ) λ b σ=>ok (!b) σ) (λ op vs=>evTest R sc op vs σ) (λ t a b=>bnd (R.T sc t σ) λ c σ=>cd c (R.T sc a σ) (R.T sc b σ)) (λ l r op=>zjv O R sc l r op σ) none (bnd (R.E sc e σ) λ v σ=>lft (truthA σ v) λ t=>ok t σ) v
noncomputable def stepT (R:Rec) (sc:Scope) (e:PySem.Expr) (σ:St):Ou Bool:=stepTV O R sc e (viewT e) σ
noncomputable def NameKind.glo (k:NameKind):Bool:=NameKind.rec false false false false true k
noncomputable def zxk (sc:Scope) (x:Str):Bool:=Option.rec false NameKind.glo (zq2 x sc.names)
noncomputable def okA (x:Ou AV):Option (AV × St):=bd x λ r=>Rs.rec (λ a σ=>some (a,σ)) (λ _=>none) r
noncomputable def forR (R:Rec) (sc:Scope) (x:Str) (tp:Pos) (f:Str) (e:PySem.Expr) (a:List Stmt) (σ:St):Ou Fl:=gd (sB f "range") (gd (zxk sc f) (gd (noStar e) (bd (okA (R.E sc e σ)) λ p=>bd p.1.nat? λ n=>gd (Nat.ble n 100000) (zjf R sc (.Name x tp) a ((List.range n).map λ i=>.int (Int.ofNat i)) p.2))))
noncomputable def forM (R:Rec) (sc:Scope) (x:Str) (tp:Pos) (it:PySem.Expr) (a:List Stmt) (σ:St):Ou Fl:=bd (okA (R.E sc it σ)) λ p=>bd p.1.hnd? λ i=>bd (zkn p.2 i) λ l=>gd (zqc l) (gd (Nat.ble l.length 100000) (zjf R sc (.Name x tp) a l { p.2 with ho:=p.2.ho.set i .dead }))
noncomputable def forC (R:Rec) (sc:Scope) (x:Str) (tp:Pos) (f:PySem.Expr) (as:List PySem.Expr) (ks:List Keyword) (ps:Pos) (a:List Stmt) (σ:St):Ou Fl:=PySem.Expr.casesOn (motive_1:=λ _=>Ou Fl) f (λ _ _ _=>Option.none) (λ _ _ _=>Option.none) (λ _ _ _ _=>Option.none) (λ _ _ _=>Option.none) (λ _ _ _ _=>Option.none) (λ _ _ _ _=>Option.none) (λ _ _ _=>Option.none) (λ _ _ _=>Option.none) (λ _ _ _ _=>Option.none) (λ _ _ _ _=>Option.none) (λ _ _ _ _ _=>Option.none) (λ _ _ _ _=>Option.none) (λ _ _=>Option.none) (λ _ _=>Option.none) (λ _ _=>Option.none) (λ _ _ _ _=>Option.none) (λ _ _ _ _=>Option.none) (λ _ _ _ _=>Option.none) (λ _ _=>Option.none) (λ _ _ _=>Option.none) (λ o n ap=>forM R sc x tp (.Call (.Attribute o n ap) as ks ps) a σ) (λ _ _ _=>Option.none) (λ _ _=>Option.none) (λ f _=>List.rec (bd (one? as) λ e=>forR R sc x tp f e a σ) (λ _ _ _=>Option.none) ks) (λ _ _=>Option.none) (λ _ _ _=>Option.none) (λ _ _ _ _=>Option.none)
noncomputable def armFor (R:Rec) (sc:Scope) (tg it:PySem.Expr) (a o:List Stmt) (σ:St):Ou Fl:=List.rec (bd (zkm tg) λ p=>bd (oCall it) λ q=>forC R sc p.1 p.2 q.1 q.2.1 q.2.2.1 q.2.2.2 a σ) (λ _ _ _=>Option.none) o
inductive SV where
 | expr (e:PySem.Expr)
 | ret (e:PySem.Expr)
 | asg (t e:PySem.Expr)
 | swp (t e:PySem.Expr)
 | ite (t:PySem.Expr) (a b:List Stmt)
 | whl (t:PySem.Expr) (a:List Stmt)
 | for (t e:PySem.Expr) (a b:List Stmt)
 | rse (e:PySem.Expr)
 | no
noncomputable def viewS (s:Stmt):SV:=Stmt.casesOn (motive_2:=λ _=>SV) s (λ _ _ _ _ _ _ _ _ _ _=>.no) (λ _ _ _ _ _ _ _ _ _ _=>.no) (λ _ _ _ _ _ _ _ _ _ _ _=>.no) (λ e _=>Option.rec .no .ret e) (λ _ _=>.no) (λ ts e _=>Option.rec .no (λ t=>cd (zzt e) (cd (tupOk t e) (.asg t e) (.swp t e)) .no) (one? ts)) (λ _ _ _ _ _ _ _=>.no) (λ _ _ _ _=>.no) (λ _ _ _ _ _=>.no) (λ t e a b _=>.for t e a b) (λ _ _ _ _ _=>.no) (λ t a o _=>List.rec (.whl t a) (λ _ _ _=>.no) o) (λ t a b _=>.ite t a b) (λ _ _ _=>.no) (λ _ _ _=>.no) (λ _ _ _=>.no) (λ e f _=>Option.rec .no (λ e=>Option.rec (.rse e) (λ _=>.no) f) e) (λ _ _ _ _ _=>.no) (λ _ _ _ _ _=>.no) (λ _ _ _=>.no) (λ _ _=>.no) (λ _ _ _ _=>.no) (λ _ _=>.no) (λ _ _=>.no) (λ e _=>cd (zzt e) (.expr e) .no) (λ _=>.no) (λ _=>.no) (λ _=>.no)
noncomputable def armSwp (R:Rec) (sc:Scope) (t e:PySem.Expr) (σ:St):Ou Fl:=lft (swapA sc t e) λ ns=>bnd (R.E sc e σ) λ v σ=>lft v.tup? λ vs=>gd (zqc vs) (lft (asNs sc ns.reverse vs.reverse σ) λ σ=>ok .next σ)
noncomputable def zko (l:List AV):Option Int:=bd (two? l) λ p=>bd p.1.nat? λ n=>gd (Nat.beq n 3) p.2.int?
noncomputable def armRse (R:Rec) (sc:Scope) (e:PySem.Expr) (σ:St):Ou Fl:=bnd (R.E sc e σ) λ v σ=>bd v.hnd? λ i=>bd (exnAt σ i) λ a=>bd a.tup? λ l=>mp Rs.exc (zko l)
noncomputable def zjx (R:Rec) (sc:Scope) (v:SV) (σ:St):Ou Fl:=SV.rec (λ e=>bnd (R.E sc e σ) λ _ σ=>ok .next σ) (λ e=>bnd (R.E sc e σ) λ v σ=>ok (.ret v) σ) (λ t e=>bnd (R.E sc e σ) λ v σ=>bnd (evAs R sc t v σ) λ _ σ=>ok .next σ) (λ t e=>armSwp R sc t e σ) (λ t a b=>bnd (R.T sc t σ) λ c σ=>cd c (evSs R sc a σ) (evSs R sc b σ)) (λ t a=>R.W sc t a σ)
 (λ t e a b=>armFor R sc t e a b σ) (λ e=>armRse R sc e σ) none v
noncomputable def stepS (R:Rec) (sc:Scope) (s:Stmt) (σ:St):Ou Fl:=zjx R sc (viewS s) σ
noncomputable def stepW (R:Rec) (sc:Scope) (t:PySem.Expr) (a:List Stmt) (σ:St):Ou Fl:=bnd (R.T sc t σ) λ c σ=>cd c (bnd (evSs R sc a σ) λ f σ=>Fl.rec (R.W sc t a σ) (ok .next σ) (R.W sc t a σ) (λ v=>ok (.ret v) σ) f) (ok .next σ)
noncomputable def memN (a:Nat) (l:List Nat):Bool:=List.rec false (λ b _ ih=>cd (Nat.beq b a) true ih) l
noncomputable def rdF (a:Nat):Bool:=memN a [405,412,419,426]
noncomputable def xtra (a:Nat):List AV:=cd (rdF a) [.gref 729] []
noncomputable def isX (a:Nat) (r:List AV):Bool:=cd (rdF a) (Option.rec false (λ v=>Option.rec false (λ g=>Nat.beq g 729) v.gref?) (one? r)) (List.rec true (λ _ _ _=>false) r)
noncomputable def nmA:AV:=.fdict ["F-1"]
noncomputable def isNm (a:AV):Bool:=Option.rec false (λ l=>Option.rec false (λ x=>sB x "F-1") (one? l)) a.fdict?
noncomputable def isFun (k:ScopeKind):Bool:=ScopeKind.rec false true false false false false false k
noncomputable def lamOk (ps:List Str) (sc:Scope) (caps:List (Str × AV)):Bool:=
 !sc.isCoroutine && !sc.isGenerator && isFun sc.kind && sc.names.all (λ p=>!NameKind.cel p.2) && ps.all (zqt sc) && caps.all (λ p=>isFree sc p.1) && nodS ps && Option.rec true (λ _=>false) (zxe sc)
structure Sb where
 f:Nat
 out:AV ⊕ Int
noncomputable def Item.sub? (i:Item):Option Sb:=Item.rec (λ _=>none) (λ f _ _ o=>some ⟨f,o⟩) i
noncomputable def blkR (i:Nat) (r:Rd) (post:List Item) (o:AV ⊕ Int) (σ:St):Ou AV:=Sum.rec (λ v=>ok v { σ with ho:=σ.ho.set i (.rdr (r.e + 1) 0 post r.nm) }) (λ ix=>some (.exc ix)) o
noncomputable def blkA (a:Nat) (args:List AV) (σ:St):Option (Ou AV):=List.rec none (λ h r _=>bd h.hnd? λ i=>bd (zjk σ i) λ q=>List.rec none (λ it post _=>bd it.sub? λ s=>gd (Nat.beq s.f a) (gd (isX a r) (gd (isNm q.nm) (some (blkR i q post s.out σ))))) q.rest) args
noncomputable def armFn (R:Rec) (fd:Fn) (args:List AV) (σ:St):Ou AV:=lft (bindA fd.params args fd.dfl) λ bs=>bnd (evSs R fd.scope fd.body { σ with loc:=bs }) λ f σ'=>Fl.rec (ok .none { σ' with loc:=σ.loc }) none none (λ v=>ok v { σ' with loc:=σ.loc }) f
noncomputable def armNew (R:Rec) (a:Nat) (args:List AV) (σ:St):Ou AV:=lft (O.init a) λ i=>bnd (R.C (.gref i) (.hnd σ.ho.length::args) { σ with ho:=σ.ho++[.inst a []] }) λ r σ'=>gd r.isNone (ok (.hnd σ.ho.length) { σ' with loc:=σ.loc })
noncomputable def armLm (R:Rec) (l:Lm) (args:List AV) (σ:St):Ou AV:=gd (lamOk l.ps l.sc l.caps) (lft (bindA l.ps args []) λ bs=>bnd (R.E l.sc l.b { σ with loc:=bs++l.caps }) λ v σ'=>ok v { σ' with loc:=σ.loc })
noncomputable def armG (R:Rec) (a:Nat) (args:List AV) (σ:St):Ou AV:=Option.rec (Option.rec (Option.rec (armNew O R a args σ) (λ fd=>armFn R fd args σ) (O.fn a)) (λ r=>r) (blkA a args σ)) (λ r=>r) (O.prim a args σ)
noncomputable def stepC (R:Rec) (f:AV) (args:List AV) (σ:St):Ou AV:=Option.rec (lft f.lam? λ l=>armLm R l args σ) (λ a=>armG O R a args σ) f.gref?
noncomputable def step (R:Rec):Rec:=⟨zke O R,stepT O R,stepS R,stepW R,stepC O R⟩
noncomputable def bot:Rec:=⟨λ _ _ _=>Option.none,λ _ _ _=>Option.none,λ _ _ _=>Option.none,λ _ _ _ _=>Option.none,λ _ _ _=>Option.none⟩
noncomputable def run (n:Nat):Rec:=Nat.rec bot (λ _ r=>step O r) n
noncomputable abbrev runF:Nat→Rec:=run O
theorem zjj (n:Nat):run O n=runF O n:=rfl
noncomputable def aA:AV:=.tup [.str "ref",.str "A",.tup [],.tup [],.none]
noncomputable def aB:AV:=.tup [.str "ref",.str "B",.tup [.str "C"],.tup [],.none]
noncomputable def aT:AV:=.tup [.str "ref",.str "T",.tup [],.tup [.tup [.str "number",.tup [.int 2,.int 0]]],.none]
noncomputable def aOne:AV:=.tup [.str "number",.tup [.int 1,.int 0]]
noncomputable def noDef:Str × Arguments × List Stmt × Scope:=("",⟨[],[],none,[],[],none,[]⟩,[],⟨.function,[],false,false,[]⟩)
noncomputable def defOfS (s:Option Stmt):Str × Arguments × List Stmt × Scope:=Option.rec noDef (λ d=>d) (bd s Stmt.def?)
noncomputable def topD (i:Nat):Str × Arguments × List Stmt × Scope:=defOfS (pw_pc0148_01.main.body[i]?)
noncomputable def metD (i j:Nat):Str × Arguments × List Stmt × Scope:=defOfS (bd (bd pw_pc0148_01.main.body[i]? Stmt.cls?) λ b=>b[j]?)
noncomputable def fnTab:List (Nat × (Str × Arguments × List Stmt × Scope) × List AV):=[
 (491,(metD 64 1),[.int 0]),
 (483,(metD 64 0),[.int 0]),
 (442,(metD 58 0),[.tup [.int 0,.int 0],.bool false]),
 (139,(topD 18),[.int 0]),
 (250,(topD 42),[.int 0]),
 (384,(topD 48),[.none]),
 (520,(metD 64 5),[.int 0]),
 (563,(metD 64 11),[.int 0]),
 (585,(metD 64 14),[.int 0]),
 (29,(topD 4),[]),
 (36,(topD 5),[]),
 (50,(topD 7),[]),
 (64,(topD 9),[]),
 (71,(topD 10),[]),
 (94,(metD 12 1),[]),
 (174,(topD 23),[]),
 (181,(topD 24),[]),
 (188,(topD 27),[]),
 (195,(topD 28),[]),
 (202,(topD 29),[]),
 (209,(topD 30),[]),
 (216,(topD 31),[]),
 (223,(topD 32),[]),
 (230,(topD 33),[]),
 (237,(topD 34),[]),
 (257,(topD 43),[]),
 (264,(topD 44),[]),
 (271,(topD 45),[]),
 (278,(topD 46),[]),
 (292,(metD 47 0),[]),
 (299,(metD 47 1),[]),
 (306,(metD 47 2),[]),
 (313,(metD 47 3),[]),
 (320,(metD 47 4),[]),
 (327,(metD 47 5),[]),
 (334,(metD 47 6),[]),
 (341,(metD 47 7),[]),
 (348,(metD 47 8),[]),
 (355,(metD 47 9),[]),
 (362,(metD 47 10),[]),
 (369,(metD 47 11),[]),
 (391,(topD 50),[]),
 (398,(topD 52),[]),
 (405,(topD 53),[]),
 (412,(topD 54),[]),
 (419,(topD 55),[]),
 (426,(topD 56),[]),
 (463,(topD 62),[]),
 (505,(metD 64 3),[]),
 (512,(metD 64 4),[]),
 (527,(metD 64 6),[]),
 (534,(metD 64 7),[]),
 (541,(metD 64 8),[]),
 (548,(metD 64 9),[]),
 (570,(metD 64 12),[]),
 (592,(metD 64 15),[]),
 (599,(metD 64 16),[]),
 (606,(metD 64 17),[]),
 (613,(metD 64 18),[]),
 (648,(topD 66),[]),
 (653,(topD 67),[]),
 (673,(topD 72),[]),
 (680,(topD 73),[]),
 (687,(topD 74),[]),
 (694,(topD 75),[]),
 (708,(topD 77),[]),
 (715,(topD 78),[]),
 (722,(topD 79),[]),
 (729,(topD 80),[]),
 (736,(topD 81),[]),
 (743,(topD 82),[]),
 (748,(topD 83),[])]
noncomputable def kv {α:Type}(x:Str) (v:α):Str × α:=(x,v)
noncomputable def methTab:List (Nat × List (Str × Nat)):=[
 (372,[(kv "__init__" <| 292),(kv "either" <| 299),(kv "both" <| 306),(kv "turned" <| 313),(kv "single" <| 320),(kv "unbracketed" <| 327),(kv "in_brackets" <| 334),(kv "subject_of_last" <| 341),(kv "sign_of_last" <| 348),(kv "predicate" <| 355),(kv "relation" <| 362),(kv "sign_here" <| 369)]),
 (637,[(kv "__init__" <| 483),(kv "peek" <| 491),(kv "fault" <| 505),(kv "take" <| 512),(kv "is_kind" <| 520),(kv "is_word" <| 527),(kv "skip" <| 534),(kv "need" <| 541),(kv "one_of" <| 548),(kv "is_name" <| 563),(kv "name" <| 570),(kv "is_sign" <| 585),(kv "skip_sign" <| 592),(kv "need_sign" <| 599),(kv "is_number" <| 606),(kv "signed" <| 613)])]
noncomputable def globTab:List (Str × AV):=[
 (kv "is_part_next" <| .gref 29),
 (kv "read_subscripts" <| .gref 36),
 (kv "read_ref" <| .gref 50),
 (kv "read_figure" <| .gref 64),
 (kv "read_operand" <| .gref 71),
 (kv "decimal" <| .gref 139),
 (kv "worth_of" <| .gref 174),
 (kv "read_decimal" <| .gref 181),
 (kv "read_expression" <| .gref 188),
 (kv "sign_among" <| .gref 195),
 (kv "read_sum" <| .gref 202),
 (kv "read_product" <| .gref 209),
 (kv "read_factor" <| .gref 216),
 (kv "is_lone_number" <| .gref 223),
 (kv "read_power" <| .gref 230),
 (kv "read_primary" <| .gref 237),
 (kv "word_here" <| .gref 250),
 (kv "is_relation_at" <| .gref 257),
 (kv "place_of_word" <| .gref 264),
 (kv "is_predicate_here" <| .gref 271),
 (kv "is_bare_relation_here" <| .gref 278),
 (kv "read_condition" <| .gref 384),
 (kv "body_here" <| .gref 391),
 (kv "name_pair" <| .gref 398),
 (kv "read_if" <| .gref 405),
 (kv "read_goto" <| .gref 412),
 (kv "read_exit" <| .gref 419),
 (kv "read_stop" <| .gref 426),
 (kv "is_reserved" <| .gref 463),
 (kv "_law_draw" <| .gref 648),
 (kv "_law_source" <| .gref 653),
 (kv "_law_REFS" <| .gref 673),
 (kv "_law_CONDS" <| .gref 680),
 (kv "_law_pick" <| .gref 687),
 (kv "_law_tokens" <| .gref 694),
 (kv "_law_heard" <| .gref 708),
 (kv "_law_small" <| .gref 715),
 (kv "_law_read" <| .gref 722),
 (kv "_law_statements" <| .gref 729),
 (kv "_law_body_words" <| .gref 736),
 (kv "_law_if_words" <| .gref 743),
 (kv "law" <| .gref 748),
 (kv "len" <| .blt "len"),(kv "min" <| .blt "min"),(kv "tuple" <| .typ "tuple"),(kv "RESERVED" <| .res),(kv "GrammarFault" <| .gref 122),(kv "Token" <| .gref 452),(kv "Reader" <| .gref 637),
 (kv "MOST_SUBSCRIPTS" <| .int 7),(kv "MOST_DEEP_expressions" <| .int 20),(kv "MOST_DEEP_conditions" <| .int 20),
 (kv "FIGURE_NAMES" <| .gref 22),(kv "OPPOSITES" <| .gref 238),(kv "WORDS_OF_SIGNS" <| .gref 240),(kv "WORDS_OF_RELATIONS" <| .gref 241),
 (kv "CLASSES" <| .tup [.str "NUMERIC",.str "ALPHABETIC",.str "ALPHABETIC-LOWER",.str "ALPHABETIC-UPPER"]),
 (kv "RELATIONS" <| .tup [.str "=",.str "<",.str ">",.str "<=",.str ">="]),
 (kv "ConditionReader" <| .gref 372),
 (kv "_law_A" <| aA),(kv "_law_B" <| aB),(kv "_law_T" <| aT),(kv "_law_ONE" <| aOne)]
noncomputable def dictTab:List (Nat × List (Str × Str)):=[
 (22,[(kv "ZERO" <| "ZERO"),(kv "ZEROS" <| "ZERO"),(kv "ZEROES" <| "ZERO"),(kv "SPACE" <| "SPACE"),(kv "SPACES" <| "SPACE"),(kv "HIGH-VALUE" <| "HIGH"),(kv "HIGH-VALUES" <| "HIGH"),(kv "LOW-VALUE" <| "LOW"),(kv "LOW-VALUES" <| "LOW"),(kv "QUOTE" <| "QUOTE"),(kv "QUOTES" <| "QUOTE")]),
 (238,[(kv "=" <| "<>"),(kv "<>" <| "="),(kv "<" <| ">="),(kv ">=" <| "<"),(kv ">" <| "<="),(kv "<=" <| ">")]),
 (240,[(kv "POSITIVE" <| "POSITIVE"),(kv "NEGATIVE" <| "NEGATIVE"),(kv "ZERO" <| "ZERO"),(kv "ZEROS" <| "ZERO"),(kv "ZEROES" <| "ZERO")]),
 (241,[(kv "GREATER" <| ">"),(kv "LESS" <| "<"),(kv "EQUAL" <| "=")])]
noncomputable def resTab:List (Str × Bool):=[(kv " A " <| false),(kv " B " <| false),(kv " C " <| false),(kv " T " <| false),(kv " F-1 " <| false),(kv " P-1 " <| false),(kv " P-2 " <| false),(kv " S-1 " <| false),
 (kv " DEPENDING " <| true),(kv " IF " <| true),(kv " GO " <| true),(kv " EXIT " <| true),(kv " STOP " <| true),(kv " ELSE " <| true),(kv " END-IF " <| true)]
noncomputable def Tape.call? (t:Tape):Option (Nat × Nat × AV):=Tape.rec (λ _ _=>none) (λ f d v=>some (f,d,v)) (λ _ _ _=>none) t
noncomputable def Tape.callo? (t:Tape):Option (Nat × Nat × AV):=Tape.rec (λ _ _=>none) (λ _ _ _=>none) (λ f d v=>some (f,d,v)) t
noncomputable def Tape.draw? (t:Tape):Option (Int × Int):=Tape.rec (λ m v=>some (m,v)) (λ _ _ _=>none) (λ _ _ _=>none) t
noncomputable def tapeTo (i:Nat) (r:List Tape) (v:AV) (σ:St):Ou AV:=ok v { σ with ho:=σ.ho.set i (.src r) }
noncomputable def tapeCall (f i:Nat) (d:AV) (σ:St):Option (Ou AV):=bd (srcAt σ i) λ l=>List.rec none (λ t r _=>tr t.call? (λ p=>gd (Nat.beq p.1 f) (bd d.nat? λ n=>gd (Nat.beq n p.2.1) (some (tapeTo i r p.2.2 σ))))
 (bd t.callo? λ p=>gd (Nat.beq p.1 f) (bd d.off? λ o=>gd (Nat.beq o.2.1 0) (gd (Nat.beq o.1 i) (gd (Nat.beq o.2.2 p.2.1) (some (tapeTo i r p.2.2 σ))))))) l
noncomputable def prim122 (args:List AV) (σ:St):Option (Ou AV):=bd (two? args) λ p=>bd p.1.str? λ _=>bd p.2.tup? λ l=>bd (zko l) λ v=>some (ok (.hnd σ.ho.length) { σ with ho:=σ.ho++[.exn (.tup [.int 3,.int v])] })
noncomputable def prim181 (args:List AV) (σ:St):Option (Ou AV):=bd (one? args) λ t=>some (lft t.str? λ t=>cd (sB t "1") (ok (.tup [.int 1,.int 0]) σ) (gd (sB t "2") (ok (.tup [.int 2,.int 0]) σ)))
noncomputable def prim648 (args:List AV) (σ:St):Option (Ou AV):=bd (two? args) λ p=>some (lft p.1.hnd? λ i=>lft p.2.int? λ l=>lft (srcAt σ i) λ ts=>List.rec none (λ t r _=>lft t.draw? λ q=>gd (decide (l=q.1)) (ok (.int q.2) { σ with ho:=σ.ho.set i (.src r) })) ts)
noncomputable def prim715 (args:List AV) (σ:St):Option (Ou AV):=bd (one? args) λ s=>bd s.hnd? λ i=>tapeCall 715 i (.int 0) σ
noncomputable def primT (f:Nat) (args:List AV) (σ:St):Option (Ou AV):=bd (two? args) λ p=>bd p.1.hnd? λ i=>tapeCall f i p.2 σ
noncomputable def prim (a:Nat) (args:List AV) (σ:St):Option (Ou AV):=cd (Nat.beq a 122) (prim122 args σ) (cd (Nat.beq a 181) (prim181 args σ) (cd (Nat.beq a 648) (prim648 args σ) (cd (Nat.beq a 715) (prim715 args σ) (cd (Nat.beq a 736) (primT 736 args σ) (gd (Nat.beq a 743) (primT 743 args σ))))))
noncomputable def primTab:List Nat:=[122,181,648,372,452,637]
noncomputable def splitTab:List (Str × List Str):=[(kv "IF" ["IF"]),(kv "GO" ["GO"]),(kv "EXIT" ["EXIT"]),(kv "STOP" ["STOP"]),(kv "RUN" ["RUN"]),(kv "TO" ["TO"]),(kv "ALL" ["ALL"]),(kv "OR" ["OR"]),(kv "AND" ["AND"]),(kv "IS" ["IS"]),(kv "NOT" ["NOT"]),(kv "THAN" ["THAN"]),
 (kv "THEN" ["THEN"]),(kv "ELSE" ["ELSE"]),(kv "END-IF" ["END-IF"]),(kv "IN" ["IN"]),(kv "OF" ["OF"]),(kv "DEPENDING" ["DEPENDING"]),(kv "ON" ["ON"]),(kv "PROGRAM" ["PROGRAM"]),(kv "OF IN" ["OF", "IN"])]
noncomputable def figs:Str := "0123456789"
noncomputable def figTab:List (Str × Bool):=[(kv "0" true),(kv "1" true),(kv "2" true),(kv "3" true),(kv "A" false),(kv "B" false),(kv "C" false),(kv "T" false),(kv "F" false),(kv "P" false),(kv "S" false),(kv "I" false),(kv "G" false),(kv "E" false),(kv "O" false),(kv "N" false),(kv "D" false),(kv "R" false),
 (kv "(" false),(kv ")" false),(kv "=" false),(kv ">" false),(kv "." false)]
noncomputable def outL (b:Bool):Out where
 lam:=b
 can a:=Option.rec (memN a primTab) (λ _=>true) (zj6 a fnTab)
 fn a:=mp (λ p=>⟨p.1.2.1.args.map (·.arg),p.2,p.1.2.2.1,p.1.2.2.2⟩) (zj6 a fnTab)
 meth c n:=bd (zj6 c methTab) (zqm n)
 glob x:=zqm x globTab
 dict a:=zj6 a dictTab
 init a:=cd (Nat.beq a 372) (some 292) (cd (Nat.beq a 452) (some 442) (gd (Nat.beq a 637) (some 483)))
 prim:=prim
 split s:=zqm s splitTab
 within x y:=gd (sB y figs) (zqm x figTab)
 res x:=zqm x resTab
noncomputable abbrev out:Out:=outL true
end
end
section
theorem lB_iff {a:List Nat}:∀ {b:List Nat},lB a b=true ↔ a=b:=by
 induction a with
 | nil=>intro b;cases b<;>simp [lB]
 | cons a l ih=>
  intro b
  cases b with
  | nil=>simp [lB]
  | cons b r=>
   have e:lB (a::l) (b::r)=Bool.rec false (lB l r) (Nat.beq a b):=rfl
   rw [e]
   cases h:Nat.beq a b with
   | true=>rw [Nat.eq_of_beq_eq_true h];simp [ih]
   | false=>simp only [Bool.false_eq_true,List.cons.injEq,false_iff,not_and];intro e;rw [e,Nat.beq_refl] at h;cases h
theorem zqo {a b:Str}:sB a b=true ↔ a=b:=by
 unfold sB
 rw [lB_iff]
 obtain ⟨⟨l⟩⟩:=a
 obtain ⟨⟨r⟩⟩:=b
 simp
theorem zz5 {a b:Str}:sB a b=false ↔ a≠b:=by
 rw [ne_eq,← zqo,Bool.not_eq_true]
theorem nn {α:Type}{x:α}{Q:Prop}(h:none=some x):Q:=nomatch h
theorem tr_q {α β:Type}{o:Option α}{f:α→Option β}{e:Option β}{r:β}{Q:Prop}(h:tr o f e=some r) (k:∀ x,o=some x→f x=some r→Q) (k':e=some r→Q):Q:=by
 cases o with
 | none=>exact k' h
 | some x=>exact k x rfl h
theorem bd_q {α β:Type}{o:Option α}{f:α→Option β}{r:β}{Q:Prop}(h:bd o f=some r) (k:∀ x,o=some x→f x=some r→Q):Q:=tr_q h k nn
@[elab_as_elim] theorem mp_q {α β:Type}{o:Option α}{f:α→β}{r:β}{Q:β→Prop}(h:mp f o=some r) (k:∀ x,o=some x→Q (f x)):Q r:=by
 cases o with
 | none=>cases h
 | some x=>cases h;exact k x rfl
theorem gd_q {β:Type}{b:Bool}{x:Option β}{r:β}{Q:Prop}(h:gd b x=some r) (k:b=true→x=some r→Q):Q:=by
 cases b with
 | false=>cases h
 | true=>exact k rfl h
theorem cd_q {β:Type}{b:Bool}{x y:Option β}{r:β}{Q:Prop}(h:cd b x y=some r) (k:b=true→x=some r→Q) (k':b=false→y=some r→Q):Q:=by
 cases b with
 | false=>exact k' rfl h
 | true=>exact k rfl h
@[elab_as_elim] theorem sm_q {β:Type}{x r:β}{Q:β→Prop}(h:some x=some r) (k:Q x):Q r:=Option.some.inj h▸k
@[elab_as_elim] theorem beq_q {a b:Nat}{Q:Nat→Prop}(h:Nat.beq a b=true) (k:Q a):Q b:=Nat.eq_of_beq_eq_true h▸k
@[elab_as_elim] theorem zj4 {α:Type}{l:List α}{a:α}{Q:List α→Prop}(h:one? l=some a) (k:Q [a]):Q l:=by
 cases l with
 | nil=>exact nn h
 | cons b r=>cases r with
  | nil=>exact sm_q (Q:=λ a=>Q [a]→Q [b]) h id k
  | cons=>exact nn h
@[elab_as_elim] theorem two_q {α:Type}{l:List α}{p:α × α}{Q:List α→Prop}(h:two? l=some p) (k:Q [p.1,p.2]):Q l:=by
 cases l with
 | nil=>exact nn h
 | cons b r=>exact zj4 (Q:=λ r=>Q (b::r)) (a:=p.2) (mp_q (Q:=λ p=>one? r=some p.2) h λ _ e=>e) (mp_q (Q:=λ p=>Q [p.1,p.2]→Q [b,p.2]) h (λ _ _=>id) k)
@[elab_as_elim] theorem nat_q {i:Int}{n:Nat}{Q:Int→Prop}(h:nat? i=some n) (k:Q (.ofNat n)):Q i:=by
 cases i with
 | ofNat m=>cases h;exact k
 | negSucc m=>cases h
@[elab_as_elim] theorem rfl_of {α:Type}{a:α}{Q:α→Prop}{b:α}(e:a=b) (k:Q a):Q b:=e▸k
theorem AV.str_e {a:AV}{x} (h:a.str? = some x):a=.str x:=AV.casesOn (motive_1:=λ a=>a.str? = some x→a=.str x) a nn (λ _=>nn) (λ _=>nn) (λ _ h=>congrArg _ (Option.some.inj h)) (λ _=>nn) (λ _=>nn) (λ _=>nn) (λ _=>nn) (λ _=>nn) (λ _=>nn) (λ _=>nn) (λ _ _=>nn) (λ _ _ _ _=>nn) (λ _ _ _=>nn) (λ _=>nn) (λ _=>nn) (λ _=>nn) nn h
theorem AV.int_e {a:AV}{x} (h:a.int? = some x):a=.int x:=AV.casesOn (motive_1:=λ a=>a.int? = some x→a=.int x) a nn (λ _=>nn) (λ _ h=>congrArg _ (Option.some.inj h)) (λ _=>nn) (λ _=>nn) (λ _=>nn) (λ _=>nn) (λ _=>nn) (λ _=>nn) (λ _=>nn) (λ _=>nn) (λ _ _=>nn) (λ _ _ _ _=>nn) (λ _ _ _=>nn) (λ _=>nn) (λ _=>nn) (λ _=>nn) nn h
theorem AV.bool_e {a:AV}{x} (h:a.bool? = some x):a=.bool x:=AV.casesOn (motive_1:=λ a=>a.bool? = some x→a=.bool x) a nn (λ _ h=>congrArg _ (Option.some.inj h)) (λ _=>nn) (λ _=>nn) (λ _=>nn) (λ _=>nn) (λ _=>nn) (λ _=>nn) (λ _=>nn) (λ _=>nn) (λ _=>nn) (λ _ _=>nn) (λ _ _ _ _=>nn) (λ _ _ _=>nn) (λ _=>nn) (λ _=>nn) (λ _=>nn) nn h
theorem AV.tup_e {a:AV}{x} (h:a.tup? = some x):a=.tup x:=AV.casesOn (motive_1:=λ a=>a.tup? = some x→a=.tup x) a nn (λ _=>nn) (λ _=>nn) (λ _=>nn) (λ _ h=>congrArg _ (Option.some.inj h)) (λ _=>nn) (λ _=>nn) (λ _=>nn) (λ _=>nn) (λ _=>nn) (λ _=>nn) (λ _ _=>nn) (λ _ _ _ _=>nn) (λ _ _ _=>nn) (λ _=>nn) (λ _=>nn) (λ _=>nn) nn h
theorem AV.hnd_e {a:AV}{x} (h:a.hnd? = some x):a=.hnd x:=AV.casesOn (motive_1:=λ a=>a.hnd? = some x→a=.hnd x) a nn (λ _=>nn) (λ _=>nn) (λ _=>nn) (λ _=>nn) (λ _ h=>congrArg _ (Option.some.inj h)) (λ _=>nn) (λ _=>nn) (λ _=>nn) (λ _=>nn) (λ _=>nn) (λ _ _=>nn) (λ _ _ _ _=>nn) (λ _ _ _=>nn) (λ _=>nn) (λ _=>nn) (λ _=>nn) nn h
theorem AV.gref_e {a:AV}{x} (h:a.gref? = some x):a=.gref x:=AV.casesOn (motive_1:=λ a=>a.gref? = some x→a=.gref x) a nn (λ _=>nn) (λ _=>nn) (λ _=>nn) (λ _=>nn) (λ _=>nn) (λ _ h=>congrArg _ (Option.some.inj h)) (λ _=>nn) (λ _=>nn) (λ _=>nn) (λ _=>nn) (λ _ _=>nn) (λ _ _ _ _=>nn) (λ _ _ _=>nn) (λ _=>nn) (λ _=>nn) (λ _=>nn) nn h
theorem AV.blt_e {a:AV}{x} (h:a.blt? = some x):a=.blt x:=AV.casesOn (motive_1:=λ a=>a.blt? = some x→a=.blt x) a nn (λ _=>nn) (λ _=>nn) (λ _=>nn) (λ _=>nn) (λ _=>nn) (λ _=>nn) (λ _ h=>congrArg _ (Option.some.inj h)) (λ _=>nn) (λ _=>nn) (λ _=>nn) (λ _ _=>nn) (λ _ _ _ _=>nn) (λ _ _ _=>nn) (λ _=>nn) (λ _=>nn) (λ _=>nn) nn h
theorem AV.typ_e {a:AV}{x} (h:a.typ? = some x):a=.typ x:=AV.casesOn (motive_1:=λ a=>a.typ? = some x→a=.typ x) a nn (λ _=>nn) (λ _=>nn) (λ _=>nn) (λ _=>nn) (λ _=>nn) (λ _=>nn) (λ _=>nn) (λ _ h=>congrArg _ (Option.some.inj h)) (λ _=>nn) (λ _=>nn) (λ _ _=>nn) (λ _ _ _ _=>nn) (λ _ _ _=>nn) (λ _=>nn) (λ _=>nn) (λ _=>nn) nn h
theorem AV.tok_e {a:AV}{x} (h:a.tok? = some x):a=.tok x:=AV.casesOn (motive_1:=λ a=>a.tok? = some x→a=.tok x) a nn (λ _=>nn) (λ _=>nn) (λ _=>nn) (λ _=>nn) (λ _=>nn) (λ _=>nn) (λ _=>nn) (λ _=>nn) (λ _ h=>congrArg _ (Option.some.inj h)) (λ _=>nn) (λ _ _=>nn) (λ _ _ _ _=>nn) (λ _ _ _=>nn) (λ _=>nn) (λ _=>nn) (λ _=>nn) nn h
theorem AV.fdict_e {a:AV}{x} (h:a.fdict? = some x):a=.fdict x:=AV.casesOn (motive_1:=λ a=>a.fdict? = some x→a=.fdict x) a nn (λ _=>nn) (λ _=>nn) (λ _=>nn) (λ _=>nn) (λ _=>nn) (λ _=>nn) (λ _=>nn) (λ _=>nn) (λ _=>nn) (λ _ h=>congrArg _ (Option.some.inj h)) (λ _ _=>nn) (λ _ _ _ _=>nn) (λ _ _ _=>nn) (λ _=>nn) (λ _=>nn) (λ _=>nn) nn h
theorem AV.rtk_e {a:AV}{x} (h:a.rtk? = some x):a=.rtk x:=AV.casesOn (motive_1:=λ a=>a.rtk? = some x→a=.rtk x) a nn (λ _=>nn) (λ _=>nn) (λ _=>nn) (λ _=>nn) (λ _=>nn) (λ _=>nn) (λ _=>nn) (λ _=>nn) (λ _=>nn) (λ _=>nn) (λ _ _=>nn) (λ _ _ _ _=>nn) (λ _ _ _=>nn) (λ _ h=>congrArg _ (Option.some.inj h)) (λ _=>nn) (λ _=>nn) nn h
theorem AV.rlen_e {a:AV}{x} (h:a.rlen? = some x):a=.rlen x:=AV.casesOn (motive_1:=λ a=>a.rlen? = some x→a=.rlen x) a nn (λ _=>nn) (λ _=>nn) (λ _=>nn) (λ _=>nn) (λ _=>nn) (λ _=>nn) (λ _=>nn) (λ _=>nn) (λ _=>nn) (λ _=>nn) (λ _ _=>nn) (λ _ _ _ _=>nn) (λ _ _ _=>nn) (λ _=>nn) (λ _ h=>congrArg _ (Option.some.inj h)) (λ _=>nn) nn h
theorem AV.rlast_e {a:AV}{x} (h:a.rlast? = some x):a=.rlast x:=AV.casesOn (motive_1:=λ a=>a.rlast? = some x→a=.rlast x) a nn (λ _=>nn) (λ _=>nn) (λ _=>nn) (λ _=>nn) (λ _=>nn) (λ _=>nn) (λ _=>nn) (λ _=>nn) (λ _=>nn) (λ _=>nn) (λ _ _=>nn) (λ _ _ _ _=>nn) (λ _ _ _=>nn) (λ _=>nn) (λ _=>nn) (λ _ h=>congrArg _ (Option.some.inj h)) nn h
theorem AV.off_e {a:AV}{x} (h:a.off? = some x):a=.off x.1 x.2.1 x.2.2:=AV.casesOn (motive_1:=λ a=>a.off? = some x→a=.off x.1 x.2.1 x.2.2) a nn (λ _=>nn) (λ _=>nn) (λ _=>nn) (λ _=>nn) (λ _=>nn) (λ _=>nn) (λ _=>nn) (λ _=>nn) (λ _=>nn) (λ _=>nn) (λ _ _=>nn) (λ _ _ _ _=>nn) (λ _ _ _ h=>Option.some.inj h▸rfl) (λ _=>nn) (λ _=>nn) (λ _=>nn) nn h
theorem AV.lam_e {a:AV}{x} (h:a.lam? = some x):a=.lam x.ps x.b x.sc x.caps:=AV.casesOn (motive_1:=λ a=>a.lam? = some x→a=.lam x.ps x.b x.sc x.caps) a nn (λ _=>nn) (λ _=>nn) (λ _=>nn) (λ _=>nn) (λ _=>nn) (λ _=>nn) (λ _=>nn) (λ _=>nn) (λ _=>nn) (λ _=>nn) (λ _ _=>nn) (λ _ _ _ _ h=>Option.some.inj h▸rfl) (λ _ _ _=>nn) (λ _=>nn) (λ _=>nn) (λ _=>nn) nn h
theorem AV.none_e {a:AV}(h:a.isNone=true):a=.none:=AV.casesOn (motive_1:=λ a=>a.isNone=true→a=.none) a (λ _=>rfl) (λ _ h=>Bool.noConfusion h) (λ _ h=>Bool.noConfusion h) (λ _ h=>Bool.noConfusion h) (λ _ h=>Bool.noConfusion h) (λ _ h=>Bool.noConfusion h) (λ _ h=>Bool.noConfusion h) (λ _ h=>Bool.noConfusion h) (λ _ h=>Bool.noConfusion h) (λ _ h=>Bool.noConfusion h) (λ _ h=>Bool.noConfusion h) (λ _ _ h=>Bool.noConfusion h) (λ _ _ _ _ h=>Bool.noConfusion h) (λ _ _ _ h=>Bool.noConfusion h) (λ _ h=>Bool.noConfusion h) (λ _ h=>Bool.noConfusion h) (λ _ h=>Bool.noConfusion h) (λ h=>Bool.noConfusion h) h
theorem AV.res_e {a:AV}(h:a.isRes=true):a=.res:=AV.casesOn (motive_1:=λ a=>a.isRes=true→a=.res) a (λ h=>Bool.noConfusion h) (λ _ h=>Bool.noConfusion h) (λ _ h=>Bool.noConfusion h) (λ _ h=>Bool.noConfusion h) (λ _ h=>Bool.noConfusion h) (λ _ h=>Bool.noConfusion h) (λ _ h=>Bool.noConfusion h) (λ _ h=>Bool.noConfusion h) (λ _ h=>Bool.noConfusion h) (λ _ h=>Bool.noConfusion h) (λ _ h=>Bool.noConfusion h) (λ _ _ h=>Bool.noConfusion h) (λ _ _ _ _ h=>Bool.noConfusion h) (λ _ _ _ h=>Bool.noConfusion h) (λ _ h=>Bool.noConfusion h) (λ _ h=>Bool.noConfusion h) (λ _ h=>Bool.noConfusion h) (λ _=>rfl) h
theorem AV.nat_e {a:AV}{n:Nat}(h:a.nat? = some n):a=.int (.ofNat n):=bd_q h λ _ h1 h2=>nat_q (Q:=λ i=>a=.int i→_) h2 id (AV.int_e h1)
theorem zjp {σ:St}{i:Nat}{x} (h:zkn σ i=some x):σ.ho[i]? = some (.lst x):=bd_q h λ o h1 h2=>h1.trans (congrArg some (HO.casesOn (motive:=λ o=>o.lst? = some x→o=.lst x) o (λ _ h=>Option.some.inj h▸rfl) (λ _ _=>nn) (λ _ _ _ _=>nn) (λ _=>nn) (λ _=>nn) (λ _ _=>nn) nn h2))
theorem instAt_e {σ:St}{i:Nat}{x} (h:instAt σ i=some x):σ.ho[i]? = some (.inst x.1 x.2):=bd_q h λ o h1 h2=>h1.trans (congrArg some (HO.casesOn (motive:=λ o=>o.inst? = some x→o=.inst x.1 x.2) o (λ _=>nn) (λ _ _ h=>Option.some.inj h▸rfl) (λ _ _ _ _=>nn) (λ _=>nn) (λ _=>nn) (λ _ _=>nn) nn h2))
theorem zki {σ:St}{i:Nat}{x} (h:zjk σ i=some x):σ.ho[i]? = some (.rdr x.e x.k x.rest x.nm):=bd_q h λ o h1 h2=>h1.trans (congrArg some (HO.casesOn (motive:=λ o=>o.rdr? = some x→o=.rdr x.e x.k x.rest x.nm) o (λ _=>nn) (λ _ _=>nn) (λ _ _ _ _ h=>Option.some.inj h▸rfl) (λ _=>nn) (λ _=>nn) (λ _ _=>nn) nn h2))
theorem srcAt_e {σ:St}{i:Nat}{x} (h:srcAt σ i=some x):σ.ho[i]? = some (.src x):=bd_q h λ o h1 h2=>h1.trans (congrArg some (HO.casesOn (motive:=λ o=>o.src? = some x→o=.src x) o (λ _=>nn) (λ _ _=>nn) (λ _ _ _ _=>nn) (λ _ h=>Option.some.inj h▸rfl) (λ _=>nn) (λ _ _=>nn) nn h2))
theorem exnAt_e {σ:St}{i:Nat}{x} (h:exnAt σ i=some x):σ.ho[i]? = some (.exn x):=bd_q h λ o h1 h2=>h1.trans (congrArg some (HO.casesOn (motive:=λ o=>o.exn? = some x→o=.exn x) o (λ _=>nn) (λ _ _=>nn) (λ _ _ _ _=>nn) (λ _=>nn) (λ _ h=>Option.some.inj h▸rfl) (λ _ _=>nn) nn h2))
theorem lstfAt_e {σ:St}{i:Nat}{x} (h:lstfAt σ i=some x):σ.ho[i]? = some (.lstf x.1 x.2):=bd_q h λ o h1 h2=>h1.trans (congrArg some (HO.casesOn (motive:=λ o=>o.lstf? = some x→o=.lstf x.1 x.2) o (λ _=>nn) (λ _ _=>nn) (λ _ _ _ _=>nn) (λ _=>nn) (λ _=>nn) (λ _ _ h=>Option.some.inj h▸rfl) nn h2))
@[elab_as_elim] theorem sB_q {x y:Str}{Q:Str→Prop}(h:sB x y=true) (k:Q y):Q x:=(zqo.mp h).symm▸k
structure Ad where
 a:Addr
 d:Addr
 t:Addr:=0
 z:Nat→Nat:=λ _=>0
 n:Nat:=0
noncomputable abbrev Ad.of (a d:Addr):Ad:=⟨a,d,0,λ _=>0,0⟩
noncomputable abbrev zkd (vs:List Value) (n:Nat):Obj:={ cls:=.type "tuple",data:=.seq vs.toArray n }
noncomputable abbrev Led:=List (Addr × Obj)
noncomputable def Hd (K:Frag) (fz:Led) (a:Addr) (o:Obj):Prop:=(a,o)∈fz∨K.lookup a=some o
inductive TokAt (K:Frag) (fz:Led) (a:Addr) (t:Tk):Prop
 | mk (td es n ta t1 t2 t3 t4 n' dd sl):(a,instObj 452 td)∈fz→(td,dictOf es n)∈fz →
  getL "kind" es=some (some (.str t.kd t1))→getL "worth" es=some (some (.str t.wd t2))→getL "at" es=some (some (.ref ta))→Hd K fz ta ⟨.type "tuple",dd,.seq [Value.int 3 t3,.int (t.ix + 1) t4].toArray n',sl⟩→TokAt K fz a t
inductive FD (P:Params) (fz:Led) (a:Addr) (l:List Str):Prop
 | mk (es n):(a,dictOf es n)∈fz→KeysLit P es→(a == sysModules)=false→(∀ x,(findBy Value.isStrOf es.toArray x).isSome=zxc x l)→FD P fz a l
inductive zzk (fz:Led) (cd:Value) (q:Str):Prop
 | mk (c o vs t):cd=.ref c→(c,o)∈fz→o.data=.fields vs→vs[1]? = some (.str q t)→zzk fz cd q
mutual
inductive VR (K:Frag) (P:Params) (ad:List Ad) (fz:Led):AV→Value→Prop
 | none:VR K P ad fz .none .none
 | bool (b:Bool):VR K P ad fz (.bool b) (.bool b)
 | int (i:Int) (t:Tok):VR K P ad fz (.int i) (.int i t)
 | str (s:Str) (t:Tok):VR K P ad fz (.str s) (.str s t)
 | tup {l:List AV}{vs:List Value}{a:Addr}{n:Nat}{dd sl}:Hd K fz a ⟨.type "tuple",dd,.seq vs.toArray n,sl⟩→VRs K P ad fz l vs→VR K P ad fz (.tup l) (.ref a)
 | hnd {i:Nat}{x:Ad}:ad[i]? = some x→VR K P ad fz (.hnd i) (.ref x.a)
 | gref (a:Nat):VR K P ad fz (.gref a) (.ref a)
 | blt (s:String):handedIn (.builtin s)=true→VR K P ad fz (.blt s) (.builtin s)
 | typ (s:String):VR K P ad fz (.typ s) (.type s)
 | tok {t:Tk}{a:Addr}:TokAt K fz a t→VR K P ad fz (.tok t) (.ref a)
 | fdict {l:List Str}{a:Addr}:FD P fz a l→VR K P ad fz (.fdict l) (.ref a)
 | lam {ps:List Str}{b:PySem.Expr}{sc:Scope}{caps:List (Str × AV)}{f:Addr}{name qual:Str}{params:Arguments}{cl:List (Str × Addr)}{pm ctv:Value}{c':Addr}:(f,kla_obj name qual params b sc cl pm c' ctv)∈fz →
   (∀ vs:List Value,vs.length=ps.length→bindArgs (kla_fn name qual params b sc cl pm (.ref c') ctv) ⟨vs,[]⟩=pure (ps.zip vs))→zzk fz (.ref c') qual→CapR K P ad fz cl caps→VR K P ad fz (.lam ps b sc caps) (.ref f)
 | off {h e k:Nat}{x:Ad}(t:Tok):ad[h]? = some x→VR K P ad fz (.off h e k) (.int ((x.z e + k:Nat):Int) t)
 | rtk {h:Nat}{x:Ad}:ad[h]? = some x→VR K P ad fz (.rtk h) (.ref x.t)
 | rlen {h:Nat}{x:Ad}(t:Tok):ad[h]? = some x→VR K P ad fz (.rlen h) (.int (x.n:Int) t)
 | rlast {h:Nat}{x:Ad}(t:Tok):ad[h]? = some x→VR K P ad fz (.rlast h) (.int ((x.n:Int) - 1) t)
 | res (t:Tok):VR K P ad fz .res (.str zq9 t)
inductive VRs (K:Frag) (P:Params) (ad:List Ad) (fz:Led):List AV→List Value→Prop
 | nil:VRs K P ad fz [] []
 | cons {a v l vs}:VR K P ad fz a v→VRs K P ad fz l vs→VRs K P ad fz (a::l) (v::vs)
 | sp {l n vs r ws}:VRs K P ad fz l vs→zqc l=true→vs.length≤n→VRs K P ad fz r ws→VRs K P ad fz (.sp l n::r) (vs++ws)
inductive CapR (K:Frag) (P:Params) (ad:List Ad) (fz:Led):List (Str × Addr)→List (Str × AV)→Prop
 | nil {cl}:CapR K P ad fz cl []
 | cons {cl x a c co v r}:cl.lookup x=some c→(c,co)∈fz→co.data=.cell (some v)→VR K P ad fz a v→CapR K P ad fz cl r→CapR K P ad fz cl ((x,a)::r)
end
section
variable {K:Frag}{P:Params}{ad ad':List Ad}{fz fz':Led}
theorem Hd.mono (h:fz⊆fz') {a o} (x:Hd K fz a o):Hd K fz' a o:=x.imp (λ m=>h m) id
theorem TokAt.mono (h:fz⊆fz') {a t} (x:TokAt K fz a t):TokAt K fz' a t:=by
 obtain ⟨td,es,n,ta,t1,t2,t3,t4,n',dd,sl,a1,a2,a3,a4,a5,a6⟩:=x
 exact ⟨td,es,n,ta,t1,t2,t3,t4,n',dd,sl,h a1,h a2,a3,a4,a5,a6.mono h⟩
theorem FD.mono (h:fz⊆fz') {a l} (x:FD P fz a l):FD P fz' a l:=by
 obtain ⟨es,n,a1,a2,a3,a4⟩:=x;exact ⟨es,n,h a1,a2,a3,a4⟩
theorem zzk.mono (h:fz⊆fz') {cd q} (x:zzk fz cd q):zzk fz' cd q:=by
 obtain ⟨c,o,vs,t,a,b,c1,c2⟩:=x;exact ⟨c,o,vs,t,a,h b,c1,c2⟩
noncomputable def Pre (ad ad':List Ad):Prop:=∃ x,ad'=ad++x
theorem Pre.refl:Pre ad ad:=⟨[],(List.append_nil _).symm⟩
theorem Pre.trans {a b c:List Ad}(x:Pre a b) (y:Pre b c):Pre a c:=by
 obtain ⟨x,rfl⟩:=x;obtain ⟨y,rfl⟩:=y;exact ⟨x++y,List.append_assoc ..⟩
theorem Pre.get (h:Pre ad ad') {i:Nat}{x:Ad}(e:ad[i]? = some x):ad'[i]? = some x:=by
 obtain ⟨y,rfl⟩:=h
 have:=(List.getElem?_eq_some_iff.mp e).1
 rw [List.getElem?_append_left this];exact e
theorem VR.mono (hp:Pre ad ad') (h:fz⊆fz') {a v} (x:VR K P ad fz a v):VR K P ad' fz' a v:=by
 refine VR.rec (motive_1:=λ a v _=>VR K P ad' fz' a v) (motive_2:=λ l vs _=>VRs K P ad' fz' l vs) (motive_3:=λ cl r _=>CapR K P ad' fz' cl r)
  .none .bool .int .str (λ a _ b=>.tup (a.mono h) b) (λ e=>.hnd (hp.get e)) .gref .blt .typ (λ a=>.tok (a.mono h)) (λ a=>.fdict (a.mono h)) (λ a b c _ d=>.lam (h a) b (c.mono h) d)
  (λ t e=>.off t (hp.get e)) (λ e=>.rtk (hp.get e)) (λ t e=>.rlen t (hp.get e)) (λ t e=>.rlast t (hp.get e)) .res .nil (λ _ _ a b=>.cons a b) (λ _ a b _ c d=>.sp c a b d) .nil (λ a b c _ _ d e=>.cons a (h b) c d e) x
theorem VRs.mono (hp:Pre ad ad') (h:fz⊆fz') {l vs} (x:VRs K P ad fz l vs):VRs K P ad' fz' l vs:=by
 refine VRs.rec (motive_1:=λ a v _=>VR K P ad' fz' a v) (motive_2:=λ l vs _=>VRs K P ad' fz' l vs) (motive_3:=λ _ _ _=>True)
  .none .bool .int .str (λ a _ b=>.tup (a.mono h) b) (λ e=>.hnd (hp.get e)) .gref .blt .typ (λ a=>.tok (a.mono h)) (λ a=>.fdict (a.mono h)) (λ a b c d _=>(VR.lam a b c d).mono hp h)
  (λ t e=>.off t (hp.get e)) (λ e=>.rtk (hp.get e)) (λ t e=>.rlen t (hp.get e)) (λ t e=>.rlast t (hp.get e)) .res .nil (λ _ _ a b=>.cons a b) (λ _ a b _ c d=>.sp c a b d) trivial (λ _ _ _ _ _ _ _=>trivial) x
end
inductive FR (K:Frag) (P:Params) (ad:List Ad) (fz:Led):List (Str × AV)→List DictEntry→Prop
 | nil:FR K P ad fz [] []
 | cons {x a t v f es}:VR K P ad fz a v→FR K P ad fz f es→FR K P ad fz ((x,a)::f) (⟨PyData.keyHash P x,.str x t,v⟩::es)
theorem FR.mono {K:Frag}{P:Params}{ad ad':List Ad}{fz fz':Led}(hp:Pre ad ad') (h:fz⊆fz') {f es} (x:FR K P ad fz f es):FR K P ad' fz' f es:=by
 induction x with
 | nil=>exact .nil
 | cons a _ ih=>exact .cons (a.mono hp h) ih
noncomputable def Item.flat:Item→List Tk
 | .tk t=>[t]
 | .sub _ t l _=>t::l
noncomputable def flat (l:List Item):List Tk:=l.flatMap Item.flat
noncomputable def drawV (ns:List Int) (at_:Nat) (m:Int):Int:=(ns.getD (at_ % ns.length) 0 + 11 * ((at_ / ns.length:Nat):Int)) % m
structure SubP where
 blk:Nat→List Tk→(AV ⊕ Int)→List Tk→Prop
 gen:Nat→Nat→List Int→Nat→AV→Nat→Prop
noncomputable def zqu (G:Nat→Nat→List Int→Nat→AV→Nat→Prop) (ns:List Int) (z:Nat):Nat→List Tape→Nat→Prop
 | at_,[],e=>at_=e
 | at_,.draw m v::r,e=>0 < m∧v=drawV ns at_ m∧zqu G ns z (at_ + 1) r e
 | at_,.call f d v::r,e=>∃ b,G f d ns at_ v b∧zqu G ns z b r e
 | at_,.callo f k v::r,e=>∃ b,G f (z + k) ns at_ v b∧zqu G ns z b r e
noncomputable def zOK (z:Nat→Nat):Nat→Nat→List Item→Prop
 | _,_,[]=>True
 | e,p,.tk _::r=>zOK z e (p + 1) r
 | e,p,.sub _ _ tl _::r=>z (e + 1)=p + (tl.length + 1)∧zOK z (e + 1) (z (e + 1)) r
inductive OW (U:SubP) (K:Frag) (P:Params) (ad:List Ad) (fz:Led):Ad→HO→Led→Prop
 | lst {x l vs n}:VRs K P ad fz l vs→OW U K P ad fz x (.lst l) [(x.a,listOf vs.toArray n)]
 | inst {x c f es n}:FR K P ad fz f es→OW U K P ad fz x (.inst c f) [(x.a,instObj c x.d),(x.d,dictOf es n)]
 | rdr {x:Ad}{e k:Nat}{rest:List Item}{nm:AV}{n2:Nat}{tvs:Array Value}{n:Nat}{toks:List Tk}{vn:Value}{t1 t2 t3 t4:Tok}:(x.a,instObj 637 x.d)∈fz→(x.t,listOf tvs n)∈fz→VRs K P ad fz (toks.map .tok) tvs.toList→flat rest=toks.drop (x.z e + k)→toks.length=x.n→toks.length < 2 ^ 20→x.z e + k≤toks.length→zOK x.z e (x.z e + k) rest→(∀ pre f hd tl o post,rest=pre++Item.sub f hd tl o::post→U.blk f (hd::tl) o (flat post)) →
   VR K P ad fz nm vn→OW U K P ad fz x (.rdr e k rest nm) [(x.d,dictOf [⟨PyData.keyHash P "tokens",.str "tokens" t1,.ref x.t⟩,⟨PyData.keyHash P "at",.str "at" t2,.int ((x.z e + k:Nat):Int) t3⟩,⟨PyData.keyHash P "named",.str "named" t4,vn⟩] n2)]
 | exn {x:Ad}{a:AV}{v wv:Value}{vs:Array Value}{n:Nat}{t1 t2:Tok}:VR K P ad fz a v→handedIn wv=true→vs[1]? = some .none→OW U K P ad fz x (.exn a) [(x.a,⟨.ref 122,some x.d,.fields vs,#[]⟩),(x.d,dictOf [⟨PyData.keyHash P "what",.str "what" t1,wv⟩,⟨PyData.keyHash P "at",.str "at" t2,v⟩] n)]
 | lstf {x l vs n w v o}:Hd K fz x.a o→(o.cls=.type "list" ∨ o.cls=.type "tuple")→o.data=.seq vs.toArray n→VRs K P ad fz l vs→vs.length < 2 ^ 20→vs[x.z 0]? = some v→VR K P ad fz w v→OW U K P ad fz x (.lstf l w) []
 | src {x:Ad}{tp:List Tape}{at_:Nat}{ns:List Int}{cs:List Value}{n n':Nat}{t1:Tok}:(x.t,listOf cs.toArray n')∈fz→IntsAre cs ns→ns≠[]→ns.length < 2 ^ 20→zqu U.gen ns (x.z 0) at_ tp x.n→OW U K P ad fz x (.src tp) [(x.a,listOf #[.ref x.t,.int (at_:Int) t1] n)]
 | dead {x}:OW U K P ad fz x .dead []
inductive OWs (U:SubP) (K:Frag) (P:Params) (ad:List Ad) (fz:Led):List Ad→List HO→Led→Prop
 | nil:OWs U K P ad fz [] [] []
 | cons {x o e xs os es}:OW U K P ad fz x o e→OWs U K P ad fz xs os es→OWs U K P ad fz (x::xs) (o::os) (e++es)
inductive INone:Value→Prop | none:INone .none
inductive IBool (b:Bool):Value→Prop | bool:IBool b (.bool b)
inductive IInt (i:Int):Value→Prop | int (t:Tok):IInt i (.int i t)
inductive IStr (s:Str):Value→Prop | str (t:Tok):IStr s (.str s t)
inductive ITup (K:Frag) (P:Params) (ad:List Ad) (fz:Led) (l:List AV):Value→Prop | tup {vs:List Value}{a:Addr}{n:Nat}{dd sl}:Hd K fz a ⟨.type "tuple",dd,.seq vs.toArray n,sl⟩→VRs K P ad fz l vs→ITup K P ad fz l (.ref a)
inductive IHnd (ad:List Ad) (i:Nat):Value→Prop | hnd {x:Ad}:ad[i]? = some x→IHnd ad i (.ref x.a)
inductive IGref (a:Nat):Value→Prop | gref:IGref a (.ref a)
inductive IBlt (s:String):Value→Prop | blt:handedIn (.builtin s)=true→IBlt s (.builtin s)
inductive ITyp (s:String):Value→Prop | typ:ITyp s (.type s)
inductive ITok (K:Frag) (fz:Led) (t:Tk):Value→Prop | tok {a:Addr}:TokAt K fz a t→ITok K fz t (.ref a)
inductive IFd (P:Params) (fz:Led) (l:List Str):Value→Prop | fdict {a:Addr}:FD P fz a l→IFd P fz l (.ref a)
inductive ILam (K:Frag) (P:Params) (ad:List Ad) (fz:Led) (ps:List Str) (b:PySem.Expr) (sc:Scope) (caps:List (Str × AV)):Value→Prop
 | lam {f:Addr}{name qual:Str}{params:Arguments}{cl:List (Str × Addr)}{pm ctv:Value}{c':Addr}:(f,kla_obj name qual params b sc cl pm c' ctv)∈fz →
   (∀ vs:List Value,vs.length=ps.length→bindArgs (kla_fn name qual params b sc cl pm (.ref c') ctv) ⟨vs,[]⟩=pure (ps.zip vs))→zzk fz (.ref c') qual→CapR K P ad fz cl caps→ILam K P ad fz ps b sc caps (.ref f)
inductive IOff (ad:List Ad) (h e k:Nat):Value→Prop | off {x:Ad}(t:Tok):ad[h]? = some x→IOff ad h e k (.int ((x.z e + k:Nat):Int) t)
inductive IRtk (ad:List Ad) (h:Nat):Value→Prop | rtk {x:Ad}:ad[h]? = some x→IRtk ad h (.ref x.t)
inductive IRlen (ad:List Ad) (h:Nat):Value→Prop | rlen {x:Ad}(t:Tok):ad[h]? = some x→IRlen ad h (.int (x.n:Int) t)
inductive IRlast (ad:List Ad) (h:Nat):Value→Prop | rlast {x:Ad}(t:Tok):ad[h]? = some x→IRlast ad h (.int ((x.n:Int) - 1) t)
inductive IRes:Value→Prop | res (t:Tok):IRes (.str zq9 t)
noncomputable def conA (a:AV):Bool:=!conS a
noncomputable def VRi (K:Frag) (P:Params) (ad:List Ad) (fz:Led):AV→Value→Prop
 | .none=>INone
 | .bool b=>IBool b
 | .int i=>IInt i
 | .str s=>IStr s
 | .tup l=>ITup K P ad fz l
 | .hnd i=>IHnd ad i
 | .gref a=>IGref a
 | .blt s=>IBlt s
 | .typ s=>ITyp s
 | .tok t=>ITok K fz t
 | .fdict l=>IFd P fz l
 | .lam ps b sc caps=>ILam K P ad fz ps b sc caps
 | .off h e k=>IOff ad h e k
 | .rtk h=>IRtk ad h
 | .rlen h=>IRlen ad h
 | .rlast h=>IRlast ad h
 | .res=>IRes
 | .sp _ _=>λ _=>False
theorem VR.inv {K:Frag}{P:Params}{ad:List Ad}{fz:Led}{a:AV}{v:Value}(h:VR K P ad fz a v):VRi K P ad fz a v:=
 VR.rec (motive_1:=λ a v _=>VRi K P ad fz a v) (motive_2:=λ _ _ _=>True) (motive_3:=λ _ _ _=>True) INone.none (λ _=>.bool) (λ _ t=>.int t) (λ _ t=>.str t) (λ a b _=>.tup a b) (λ a=>.hnd a) (λ _=>.gref) (λ _ a=>.blt a) (λ _=>.typ) (λ a=>.tok a) (λ a=>.fdict a) (λ a b c d _=>.lam a b c d)
  (λ t a=>.off t a) (λ a=>.rtk a) (λ t a=>.rlen t a) (λ t a=>.rlast t a) (λ t=>.res t) trivial (λ _ _ _ _=>trivial) (λ _ _ _ _ _ _=>trivial) trivial (λ _ _ _ _ _ _ _=>trivial) h
theorem VR.to {K:Frag}{P:Params}{ad:List Ad}{fz:Led}{a b:AV}{v:Value}(e:a=b) (h:VR K P ad fz a v):VRi K P ad fz b v:=e▸h.inv
section
variable {K:Frag}{P:Params}{ad:List Ad}{fz:Led}{a:AV}{v:Value}{Q:Value→Prop}
@[elab_as_elim] theorem VR.qStr {x:Str}(h:VR K P ad fz a v) (e:a.str? = some x) (k:∀ t,Q (.str x t)):Q v:=IStr.rec (motive:=λ v _=>Q v) k (show IStr x v from VR.to (AV.str_e e) h)
@[elab_as_elim] theorem VR.qInt {x:Int}(h:VR K P ad fz a v) (e:a.int? = some x) (k:∀ t,Q (.int x t)):Q v:=IInt.rec (motive:=λ v _=>Q v) k (show IInt x v from VR.to (AV.int_e e) h)
@[elab_as_elim] theorem VR.qNat {x:Nat}(h:VR K P ad fz a v) (e:a.nat? = some x) (k:∀ t,Q (.int (.ofNat x) t)):Q v:=IInt.rec (motive:=λ v _=>Q v) k (show IInt (.ofNat x) v from VR.to (AV.nat_e e) h)
@[elab_as_elim] theorem VR.qBool {x:Bool}(h:VR K P ad fz a v) (e:a.bool? = some x) (k:Q (.bool x)):Q v:=IBool.rec (motive:=λ v _=>Q v) k (show IBool x v from VR.to (AV.bool_e e) h)
@[elab_as_elim] theorem VR.qNone (h:VR K P ad fz a v) (e:a.isNone=true) (k:Q .none):Q v:=INone.rec (motive:=λ v _=>Q v) k (show INone  v from VR.to (AV.none_e e) h)
@[elab_as_elim] theorem VR.qTup {x:List AV}(h:VR K P ad fz a v) (e:a.tup? = some x) (k:∀ {vs:List Value}{a n dd sl},Hd K fz a ⟨.type "tuple",dd,.seq vs.toArray n,sl⟩→VRs K P ad fz x vs→Q (.ref a)):Q v:=ITup.rec (motive:=λ v _=>Q v) k (show ITup K P ad fz x v from VR.to (AV.tup_e e) h)
@[elab_as_elim] theorem VR.qHnd {x:Nat}(h:VR K P ad fz a v) (e:a.hnd? = some x) (k:∀ {y:Ad},ad[x]? = some y→Q (.ref y.a)):Q v:=IHnd.rec (motive:=λ v _=>Q v) k (show IHnd ad x v from VR.to (AV.hnd_e e) h)
@[elab_as_elim] theorem VR.qGref {x:Nat}(h:VR K P ad fz a v) (e:a.gref? = some x) (k:Q (.ref x)):Q v:=IGref.rec (motive:=λ v _=>Q v) k (show IGref x v from VR.to (AV.gref_e e) h)
@[elab_as_elim] theorem VR.qBlt {x:String}(h:VR K P ad fz a v) (e:a.blt? = some x) (k:Q (.builtin x)):Q v:=IBlt.rec (motive:=λ v _=>Q v) (λ _=>k) (show IBlt x v from VR.to (AV.blt_e e) h)
@[elab_as_elim] theorem VR.qTyp {x:String}(h:VR K P ad fz a v) (e:a.typ? = some x) (k:Q (.type x)):Q v:=ITyp.rec (motive:=λ v _=>Q v) k (show ITyp x v from VR.to (AV.typ_e e) h)
@[elab_as_elim] theorem VR.qTok {x:Tk}(h:VR K P ad fz a v) (e:a.tok? = some x) (k:∀ {a},TokAt K fz a x→Q (.ref a)):Q v:=ITok.rec (motive:=λ v _=>Q v) k (show ITok K fz x v from VR.to (AV.tok_e e) h)
@[elab_as_elim] theorem VR.qFd {x:List Str}(h:VR K P ad fz a v) (e:a.fdict? = some x) (k:∀ {a},FD P fz a x→Q (.ref a)):Q v:=IFd.rec (motive:=λ v _=>Q v) k (show IFd P fz x v from VR.to (AV.fdict_e e) h)
@[elab_as_elim] theorem VR.qRtk {x:Nat}(h:VR K P ad fz a v) (e:a.rtk? = some x) (k:∀ {y:Ad},ad[x]? = some y→Q (.ref y.t)):Q v:=IRtk.rec (motive:=λ v _=>Q v) k (show IRtk ad x v from VR.to (AV.rtk_e e) h)
@[elab_as_elim] theorem VR.qRlen {x:Nat}(h:VR K P ad fz a v) (e:a.rlen? = some x) (k:∀ {y:Ad} t,ad[x]? = some y→Q (.int (y.n:Int) t)):Q v:=IRlen.rec (motive:=λ v _=>Q v) k (show IRlen ad x v from VR.to (AV.rlen_e e) h)
@[elab_as_elim] theorem VR.qRlast {x:Nat}(h:VR K P ad fz a v) (e:a.rlast? = some x) (k:∀ {y:Ad} t,ad[x]? = some y→Q (.int ((y.n:Int) - 1) t)):Q v:=IRlast.rec (motive:=λ v _=>Q v) k (show IRlast ad x v from VR.to (AV.rlast_e e) h)
@[elab_as_elim] theorem VR.qOff {x:Nat × Nat × Nat}(h:VR K P ad fz a v) (e:a.off? = some x) (k:∀ {y:Ad} t,ad[x.1]? = some y→Q (.int ((y.z x.2.1 + x.2.2:Nat):Int) t)):Q v:=IOff.rec (motive:=λ v _=>Q v) k (show IOff ad x.1 x.2.1 x.2.2 v from VR.to (AV.off_e e) h)
@[elab_as_elim] theorem VR.qRes (h:VR K P ad fz a v) (e:a.isRes=true) (k:∀ t,Q (.str zq9 t)):Q v:=IRes.rec (motive:=λ v _=>Q v) k (show IRes  v from VR.to (AV.res_e e) h)
end
inductive VNil:List Value→Prop | nil:VNil []
inductive VCons (K:Frag) (P:Params) (ad:List Ad) (fz:Led) (a:AV) (l:List AV):List Value→Prop | cons {v vs}:VR K P ad fz a v→VRs K P ad fz l vs→VCons K P ad fz a l (v::vs)
noncomputable def conL (l:List AV):Bool:=List.rec true (λ a _ _=>!conS a) l
noncomputable def VRsi (K:Frag) (P:Params) (ad:List Ad) (fz:Led):List AV→List Value→Prop
 | []=>VNil
 | a::l=>VCons K P ad fz a l
theorem VRs.inv {K:Frag}{P:Params}{ad:List Ad}{fz:Led}{l:List AV}{vs:List Value}(h:VRs K P ad fz l vs) (q:conL l=true:=by rfl):VRsi K P ad fz l vs:=by
 cases h with
 | nil=>exact .nil
 | cons a b=>exact .cons a b
 | sp=>exact Bool.noConfusion q
@[elab_as_elim] theorem VRs.qCons {K:Frag}{P:Params}{ad:List Ad}{fz:Led}{a:AV}{l:List AV}{vs:List Value}{Q:List Value→Prop}(h:VRs K P ad fz (a::l) vs) (q:conS a=false) (k:∀ {v vs},VR K P ad fz a v→VRs K P ad fz l vs→Q (v::vs)):Q vs:=
 VCons.rec (motive:=λ vs _=>Q vs) k (show VCons K P ad fz a l vs from h.inv (by show (!conS a)=true;rw [q];rfl))
@[elab_as_elim] theorem VRs.qNil {K:Frag}{P:Params}{ad:List Ad}{fz:Led}{vs:List Value}{Q:List Value→Prop}(h:VRs K P ad fz [] vs) (k:Q []):Q vs:=VNil.rec (motive:=λ vs _=>Q vs) k (show VNil vs from h.inv)
inductive ILst (K:Frag) (P:Params) (ad:List Ad) (fz:Led) (x:Ad) (l:List AV):Led→Prop | lst {vs n}:VRs K P ad fz l vs→ILst K P ad fz x l [(x.a,listOf vs.toArray n)]
inductive IInst (K:Frag) (P:Params) (ad:List Ad) (fz:Led) (x:Ad) (c:Nat) (f:List (Str × AV)):Led→Prop | inst {es n}:FR K P ad fz f es→IInst K P ad fz x c f [(x.a,instObj c x.d),(x.d,dictOf es n)]
inductive IRdr (U:SubP) (K:Frag) (P:Params) (ad:List Ad) (fz:Led) (x:Ad) (e k:Nat) (rest:List Item) (nm:AV):Led→Prop
 | rdr {n2:Nat}{tvs:Array Value}{n:Nat}{toks:List Tk}{vn:Value}{t1 t2 t3 t4:Tok}:(x.a,instObj 637 x.d)∈fz→(x.t,listOf tvs n)∈fz→VRs K P ad fz (toks.map .tok) tvs.toList→flat rest=toks.drop (x.z e + k)→toks.length=x.n→toks.length < 2 ^ 20→x.z e + k≤toks.length→zOK x.z e (x.z e + k) rest→(∀ pre f hd tl o post,rest=pre++Item.sub f hd tl o::post→U.blk f (hd::tl) o (flat post)) →
   VR K P ad fz nm vn→IRdr U K P ad fz x e k rest nm [(x.d,dictOf [⟨PyData.keyHash P "tokens",.str "tokens" t1,.ref x.t⟩,⟨PyData.keyHash P "at",.str "at" t2,.int ((x.z e + k:Nat):Int) t3⟩,⟨PyData.keyHash P "named",.str "named" t4,vn⟩] n2)]
inductive IExn (K:Frag) (P:Params) (ad:List Ad) (fz:Led) (x:Ad) (a:AV):Led→Prop
 | exn {v wv:Value}{vs:Array Value}{n:Nat}{t1 t2:Tok}:VR K P ad fz a v→handedIn wv=true→vs[1]? = some .none→IExn K P ad fz x a [(x.a,⟨.ref 122,some x.d,.fields vs,#[]⟩),(x.d,dictOf [⟨PyData.keyHash P "what",.str "what" t1,wv⟩,⟨PyData.keyHash P "at",.str "at" t2,v⟩] n)]
inductive ILstf (K:Frag) (P:Params) (ad:List Ad) (fz:Led) (x:Ad) (l:List AV) (w:AV):Led→Prop
 | lstf {vs n v o}:Hd K fz x.a o→(o.cls=.type "list" ∨ o.cls=.type "tuple")→o.data=.seq vs.toArray n→VRs K P ad fz l vs→vs.length < 2 ^ 20→vs[x.z 0]? = some v→VR K P ad fz w v→ILstf K P ad fz x l w []
inductive ISrc (U:SubP) (fz:Led) (x:Ad) (tp:List Tape):Led→Prop
 | src {at_:Nat}{ns:List Int}{cs:List Value}{n n':Nat}{t1:Tok}:(x.t,listOf cs.toArray n')∈fz→IntsAre cs ns→ns≠[]→ns.length < 2 ^ 20→zqu U.gen ns (x.z 0) at_ tp x.n→ISrc U fz x tp [(x.a,listOf #[.ref x.t,.int (at_:Int) t1] n)]
inductive IDead:Led→Prop | dead:IDead []
noncomputable def OWi (U:SubP) (K:Frag) (P:Params) (ad:List Ad) (fz:Led) (x:Ad):HO→Led→Prop
 | .lst l=>ILst K P ad fz x l
 | .inst c f=>IInst K P ad fz x c f
 | .rdr e k rest nm=>IRdr U K P ad fz x e k rest nm
 | .exn a=>IExn K P ad fz x a
 | .lstf l w=>ILstf K P ad fz x l w
 | .src tp=>ISrc U fz x tp
 | .dead=>IDead
theorem OW.inv {U:SubP}{K:Frag}{P:Params}{ad:List Ad}{fz:Led}{x:Ad}{o:HO}{es:Led}(h:OW U K P ad fz x o es):OWi U K P ad fz x o es:=
 OW.rec (motive:=λ o es _=>OWi U K P ad fz x o es) (λ a=>.lst a) (λ a=>.inst a) (λ a b c d e f g j k i=>.rdr a b c d e f g j k i) (λ a b c=>.exn a b c) (λ i j k a d b c=>.lstf i j k a d b c) (λ a b c d e=>.src a b c d e) IDead.dead h
inductive ONil:List Ad→Led→Prop | nil:ONil [] []
inductive OCons (U:SubP) (K:Frag) (P:Params) (ad:List Ad) (fz:Led) (o:HO) (os:List HO):List Ad→Led→Prop | cons {x e xs es}:OW U K P ad fz x o e→OWs U K P ad fz xs os es→OCons U K P ad fz o os (x::xs) (e++es)
noncomputable def OWsi (U:SubP) (K:Frag) (P:Params) (ad:List Ad) (fz:Led):List HO→List Ad→Led→Prop
 | []=>ONil
 | o::os=>OCons U K P ad fz o os
theorem OWs.inv {U:SubP}{K:Frag}{P:Params}{ad:List Ad}{fz:Led}{xs:List Ad}{os:List HO}{es:Led}(h:OWs U K P ad fz xs os es):OWsi U K P ad fz os xs es:=
 OWs.rec (motive:=λ xs os es _=>OWsi U K P ad fz os xs es) ONil.nil (λ a b _=>.cons a b) h
section
variable {U:SubP}{K:Frag}{P:Params}{ad ad':List Ad}{fz fz':Led}
theorem OW.mono (hp:Pre ad ad') (h:fz⊆fz') {x o e} (q:OW U K P ad fz x o e):OW U K P ad' fz' x o e:=
 q.rec (motive:=λ o e _=>OW U K P ad' fz' x o e) (λ a=>.lst (a.mono hp h)) (λ a=>.inst (a.mono hp h)) (λ a b c d e f g j k i=>.rdr (h a) (h b) (c.mono hp h) d e f g j k (i.mono hp h))
  (λ a b c=>.exn (a.mono hp h) b c) (λ i j k a d b c=>.lstf (i.mono h) j k (a.mono hp h) d b (c.mono hp h)) (λ a b c d e=>.src (h a) b c d e) .dead
theorem OWs.mono (hp:Pre ad ad') (h:fz⊆fz') {xs os es} (q:OWs U K P ad fz xs os es):OWs U K P ad' fz' xs os es:=
 q.rec (motive:=λ xs os es _=>OWs U K P ad' fz' xs os es) .nil (λ a _ b=>.cons (a.mono hp h) b)
theorem OWs.length {xs os es} (q:OWs U K P ad fz xs os es):xs.length=os.length:=
 q.rec (motive:=λ xs os _ _=>xs.length=os.length) rfl (λ _ _ b=>congrArg (· + 1) b)
theorem VRs.rec1 {M:List AV→List Value→Prop}(h1:M [] []) (h2:∀ {a v l vs},VR K P ad fz a v→VRs K P ad fz l vs→M l vs→M (a::l) (v::vs))
  (h3:∀ {l n vs r ws},VRs K P ad fz l vs→zqc l=true→vs.length≤n→VRs K P ad fz r ws→M r ws→M (.sp l n::r) (vs++ws)) {l vs} (x:VRs K P ad fz l vs):M l vs:=
 VRs.rec (motive_1:=λ _ _ _=>True) (motive_2:=λ l vs _=>M l vs) (motive_3:=λ _ _ _=>True) trivial (λ _=>trivial) (λ _ _=>trivial) (λ _ _=>trivial) (λ _ _ _=>trivial) (λ _=>trivial) (λ _=>trivial) (λ _ _=>trivial) (λ _=>trivial) (λ _=>trivial) (λ _=>trivial)
  (λ _ _ _ _ _=>trivial) (λ _ _=>trivial) (λ _=>trivial) (λ _ _=>trivial) (λ _ _=>trivial) (λ _=>trivial) h1 (λ a b _ c=>h2 a b c) (λ a b c d _ e=>h3 a b c d e) trivial (λ _ _ _ _ _ _ _=>trivial) x
theorem VR.notSp {a v} (h:VR K P ad fz a v):conS a=false:=
 VR.rec (motive_1:=λ a _ _=>conS a=false) (motive_2:=λ _ _ _=>True) (motive_3:=λ _ _ _=>True) (Eq.refl false) (λ _=>(Eq.refl false)) (λ _ _=>(Eq.refl false)) (λ _ _=>(Eq.refl false)) (λ _ _ _=>(Eq.refl false)) (λ _=>(Eq.refl false)) (λ _=>(Eq.refl false)) (λ _ _=>(Eq.refl false)) (λ _=>(Eq.refl false)) (λ _=>(Eq.refl false)) (λ _=>(Eq.refl false)) (λ _ _ _ _ _=>(Eq.refl false))
  (λ _ _=>(Eq.refl false)) (λ _=>(Eq.refl false)) (λ _ _=>(Eq.refl false)) (λ _ _=>(Eq.refl false)) (λ _=>(Eq.refl false)) trivial (λ _ _ _ _=>trivial) (λ _ _ _ _ _ _=>trivial) trivial (λ _ _ _ _ _ _ _=>trivial) h
theorem sp_conS (a:AV):conS a=false→a.sp? = none:=AV.casesOn (motive_1:=λ a=>conS a=false→a.sp? = none) a (λ _=>rfl) (λ _ _=>rfl) (λ _ _=>rfl) (λ _ _=>rfl) (λ _ _=>rfl) (λ _ _=>rfl) (λ _ _=>rfl) (λ _ _=>rfl) (λ _ _=>rfl) (λ _ _=>rfl) (λ _ _=>rfl) (λ _ _ h=>Bool.noConfusion h) (λ _ _ _ _ _=>rfl) (λ _ _ _ _=>rfl) (λ _ _=>rfl) (λ _ _=>rfl) (λ _ _=>rfl) (λ _=>rfl)
theorem wtA_c (a:AV) (l:List AV) (h:conS a=false):wtA (a::l)=wtA l + 1:=by
 show (Option.rec _ _ a.sp?:Nat)=_
 rw [sp_conS a h];rfl
theorem VRs.len {l vs} (q:VRs K P ad fz l vs):vs.length≤wtA l:=by
 refine q.rec1 (M:=λ l vs=>vs.length≤wtA l) (Nat.le_refl _) (λ h _ i=>?_) (λ _ _ e _ i=>?_)
 ·rw [wtA_c _ _ h.notSp];exact Nat.succ_le_succ i
 ·rw [List.length_append];exact Nat.add_le_add e i
theorem VRs.append {l vs l' vs'} (q:VRs K P ad fz l vs) (h:VRs K P ad fz l' vs'):VRs K P ad fz (l++l') (vs++vs'):=
 q.rec1 (M:=λ l vs=>VRs K P ad fz (l++l') (vs++vs')) h (λ a _ b=>.cons a b) (λ a e b _ c=>by rw [List.append_assoc];exact .sp a e b c)
theorem nthA_0 {a:AV}{l:List AV}(h:conS a=false):nthA (a::l) 0=some a:=by show cd (conS a) _ _=_;rw [h];rfl
theorem nthA_s {a:AV}{l:List AV}{k:Nat}(h:conS a=false):nthA (a::l) (k + 1)=nthA l k:=by show cd (conS a) _ _=_;rw [h];rfl
theorem zxi {a:AV}{l:List AV}(h:conS a=false):zqc (a::l)=zqc l:=by show cd (conS a) _ _=_;rw [h];rfl
theorem nthA_sp {l r:List AV}{n k:Nat}{a:AV}{Q:Prop}(h:nthA (.sp l n::r) k=some a):Q:=nn h
theorem zzb {l r:List AV}{n:Nat}{Q:Prop}(h:zqc (.sp l n::r)=true):Q:=Bool.noConfusion h
theorem VRs.nth {l vs} {k:Nat}{a} (q:VRs K P ad fz l vs):nthA l k=some a→∃ v,vs[k]? = some v∧VR K P ad fz a v:=by
 refine q.rec1 (M:=λ l vs=>∀ k,nthA l k=some a→∃ v,vs[k]? = some v∧VR K P ad fz a v) (λ k e=>nomatch e) (λ h _ i k e=>?_) (λ _ _ _ _ _ k e=>?_) k
 ·cases k with
  | zero=>rw [nthA_0 h.notSp] at e;exact ⟨_,rfl,Option.some.inj e▸h⟩
  | succ k=>rw [nthA_s h.notSp] at e;exact i k e
 ·exact nthA_sp e
theorem VRs.plain {l vs} (q:VRs K P ad fz l vs):zqc l=true→vs.length=l.length:=by
 refine q.rec1 (M:=λ l vs=>zqc l=true→vs.length=l.length) (λ _=>rfl) (λ h _ i e=>?_) (λ _ _ _ _ _ e=>?_)
 ·rw [zxi h.notSp] at e;exact congrArg (· + 1) (i e)
 ·exact zzb e
theorem zxl:∀ l:List Tk,zqc (l.map .tok)=true
 | []=>rfl
 | _::l=>zxl l
theorem VRs.nth_toks {l:List Tk}{vs} {k:Nat}{t} (q:VRs K P ad fz (l.map .tok) vs) (e:l[k]? = some t):∃ v,vs[k]? = some v∧VR K P ad fz (.tok t) v:=by
 refine q.nth ?_
 clear q
 induction l generalizing k with
 | nil=>simp at e
 | cons x l ih=>cases k with
  | zero=>exact congrArg (Option.map AV.tok) e
  | succ k=>exact ih e
theorem OWs.one {x o e} (h:OW U K P ad fz x o e):OWs U K P ad fz [x] [o] e:=by
 have:=OWs.cons h (.nil (U:=U) (K:=K) (P:=P) (ad:=ad) (fz:=fz))
 rwa [List.append_nil] at this
@[elab_as_elim] theorem OWs.qNil {xs:List Ad}{es:Led}{Q:List Ad→Led→Prop}(h:OWs U K P ad fz xs [] es) (k:Q [] []):Q xs es:=ONil.rec (motive:=λ xs es _=>Q xs es) k (show ONil xs es from h.inv)
@[elab_as_elim] theorem OWs.qCons {xs:List Ad}{o:HO}{os:List HO}{es:Led}{Q:List Ad→Led→Prop}(h:OWs U K P ad fz xs (o::os) es) (k:∀ {x e xs es},OW U K P ad fz x o e→OWs U K P ad fz xs os es→Q (x::xs) (e++es)):Q xs es:=OCons.rec (motive:=λ xs es _=>Q xs es) k (show OCons U K P ad fz o os xs es from h.inv)
theorem OWs.qOne {x:Ad}{o:HO}{es:Led}{Q:Led→Prop}(h:OWs U K P ad fz [x] [o] es) (k:∀ {e},OW U K P ad fz x o e→Q e):Q es:=
 OWs.qCons (Q:=λ xs es=>xs=[x]→Q es) h (λ {y e _ _} a b=>OWs.qNil (Q:=λ xs es=>y::xs=[x]→Q (e++es)) b λ q=>by
  rw [List.append_nil]
  exact k ((List.cons.inj q).1▸a)) rfl
inductive Split (U:SubP) (K:Frag) (P:Params) (ad:List Ad) (fz:Led) (xs:List Ad) (os:List HO) (es:Led) (i:Nat) (o:HO):Prop
 | mk (x e pre post):xs[i]? = some x→OW U K P ad fz x o e→es=pre++(e++post)→(∀ o' e',OW U K P ad fz x o' e'→OWs U K P ad fz xs (os.set i o') (pre++(e'++post)))→Split U K P ad fz xs os es i o
inductive Split2 (U:SubP) (K:Frag) (P:Params) (ad:List Ad) (fz:Led) (xs:List Ad) (os:List HO) (es:Led) (i:Nat) (o:HO):Prop
 | mk (x e pre post):xs[i]? = some x→OW U K P ad fz x o e→es=pre++(e++post)→(∀ ad' fz',Pre ad ad'→fz⊆fz'→∀ o' e',OW U K P ad' fz' x o' e'→OWs U K P ad' fz' xs (os.set i o') (pre++(e'++post)))→Split2 U K P ad fz xs os es i o
theorem OWs.split2 {xs os es} {i:Nat}{o:HO}(q:OWs U K P ad fz xs os es):os[i]? = some o→Split2 U K P ad fz xs os es i o:=by
 induction q generalizing i with
 | nil=>intro h;simp at h
 | @cons _ _ _ _ _ es a b ih=>
  intro h
  cases i with
  | zero=>cases h;exact ⟨_,_,[],es,rfl,a,rfl,λ ad' fz' hp hf o' e' h=>(OWs.cons h (b.mono hp hf):OWs U K P ad' fz' _ _ (e'++es))⟩
  | succ i=>
   obtain ⟨x',e,pre,post,h1,h2,h3,h4⟩:=ih (i:=i) h
   refine ⟨x',e,_++pre,post,h1,h2,by rw [h3,List.append_assoc],λ _ _ hp hf _ _ h=>?_⟩
   rw [List.append_assoc]
   exact .cons (a.mono hp hf) (h4 _ _ hp hf _ _ h)
theorem OWs.split {xs os es} {i:Nat}{o:HO}(q:OWs U K P ad fz xs os es) (h:os[i]? = some o):Split U K P ad fz xs os es i o:=by
 obtain ⟨x,e,pre,post,h1,h2,h3,h4⟩:=q.split2 h
 exact ⟨x,e,pre,post,h1,h2,h3,λ o' e'=>h4 ad fz .refl (λ _ h=>h) o' e'⟩
theorem OWs.snoc {x:Ad}{o:HO}{e:Led}{xs os es} (q:OWs U K P ad fz xs os es) (h:OW U K P ad fz x o e):OWs U K P ad fz (xs++[x]) (os++[o]) (es++e):=by
 induction q with
 | nil=>have:=OWs.cons h .nil;rw [List.append_nil] at this;exact this
 | cons a _ ih=>rw [List.append_assoc];exact .cons a ih
end
end
section
structure Cx where
 A:Around
 A₀:Around
 base:Heap
 h₀:Heap
 outer:List Env
 L:Addr
 a:Addr
 cn:Str
 sc:Scope
 ccd:Value
 cl:List (Str × Addr)
 og:OsState × Array GenState × Drawn
noncomputable abbrev Cx.env (c:Cx):Env:=envX c.cn c.sc c.L c.a c.ccd c.cl
structure Ok (p:Program) (loose:List Str) (mg mb:Str→Option Value) (K:Frag) (c:Cx) (n:Nat):Prop where
 B:Below c.A₀ c.base c.outer c.h₀
 X:K.In c.h₀
 T:TopRead p loose mg mb c.h₀
 hA:c.A.frames=some (c.env::c.outer)
 hh:c.A.handled=none
 dep:c.A.depth + n≤990
 un:c.A.units + 4 * n≤9700
 kf:c.sc.kind=.function
 top:∃ mean,Top p loose mean mg mb c.h₀
 XB:K.In c.base
 st:∀ i,zxe c.sc=some i→∃ c₀,c.ccd=.ref c₀∧CodeHd c.h₀ c₀ i.P∧c.env.qual ++ "<lambda>" = i.q
theorem Ok.le {p:Program}{loose:List Str}{mg mb:Str→Option Value}{K:Frag}{c:Cx}{n k:Nat}(x:Ok p loose mg mb K c n) (h:k≤n):Ok p loose mg mb K c k:=
 ⟨x.B,x.X,x.T,x.hA,x.hh,Nat.le_trans (by omega) x.dep,Nat.le_trans (by omega) x.un,x.kf,x.top,x.XB,x.st⟩
theorem Ok.room {p:Program}{loose:List Str}{mg mb:Str→Option Value}{K:Frag}{c:Cx}{n:Nat}(x:Ok p loose mg mb K c (n + 1)):c.A.depth < recursionLimit:=Nat.lt_of_le_of_lt (Nat.le_trans (Nat.le_add_right _ _) x.dep) (by decide)
theorem Ok.dep1 {p:Program}{loose:List Str}{mg mb:Str→Option Value}{K:Frag}{c:Cx}{n:Nat}(x:Ok p loose mg mb K c (n + 1)):c.A.depth + 1 + n≤990:=by rw [Nat.add_assoc,Nat.add_comm 1 n];exact x.dep
theorem Ok.un4 {p:Program}{loose:List Str}{mg mb:Str→Option Value}{K:Frag}{c:Cx}{n:Nat}(x:Ok p loose mg mb K c (n + 1)):c.A.units + 4 + 4 * n≤9700:=by rw [Nat.add_assoc,Nat.add_comm 4 (4 * n)];exact x.un
theorem Ok.un3 {p:Program}{loose:List Str}{mg mb:Str→Option Value}{K:Frag}{c:Cx}{n:Nat}(x:Ok p loose mg mb K c (n + 1)):c.A.units + 3 + 4 * n≤9700:=Nat.le_trans (Nat.add_le_add_right (Nat.le_succ _) _) x.un4
theorem Ok.un1 {p:Program}{loose:List Str}{mg mb:Str→Option Value}{K:Frag}{c:Cx}{n:Nat}(x:Ok p loose mg mb K c (n + 1)):c.A.units + 1 + 4 * n≤9700:=Nat.le_trans (Nat.add_le_add_right (Nat.add_le_add_left (by decide) _) _) x.un4
theorem Ok.line {p:Program}{loose:List Str}{mg mb:Str→Option Value}{K:Frag}{c:Cx}{n:Nat}(x:Ok p loose mg mb K c n):c.A.units < cLine:=Nat.lt_of_le_of_lt (Nat.le_trans (Nat.le_add_right _ _) x.un) (by decide)
noncomputable def Loc (K:Frag) (P:Params) (c:Cx) (ad:List Ad) (fz:Led) (m:Str→Option Value) (loc:List (Str × AV)):Prop:=
 ∀ x a,zqn x loc=some a→(c.sc.names.lookup x=some .local→∃ v,m x=some v∧VR K P ad fz a v) ∧
  (c.sc.names.lookup x=some .cell∨c.sc.names.lookup x=some .free→∃ cc co v,c.cl.lookup x=some cc∧(cc,co)∈fz∧co.data=.cell (some v)∧VR K P ad fz a v)
theorem Loc.mono {K:Frag}{P:Params}{c:Cx}{ad ad':List Ad}{fz fz':Led}{m loc} (hp:Pre ad ad') (h:fz⊆fz') (x:Loc K P c ad fz m loc):Loc K P c ad' fz' m loc:=λ y a e=>
 (x y a e).imp (λ f q=>(f q).imp λ _ g=>g.imp_right λ g=>g.mono hp h) λ f q=>(f q).imp λ _ g=>g.imp λ _ g=>g.imp λ _ g=>g.imp_right λ g=>g.imp (λ g=>h g) λ g=>g.imp_right λ g=>g.mono hp h
noncomputable def TabOk (fz:Led) (i:TabI) (o:Obj):Prop:=o=tabObj #[]∨∃ c t1 t2,o=tabObj #[.int i.line t1,.int i.col t2,.ref c]∧zzk fz (.ref c) i.q
inductive Tabs (fz:Led):List TabI→Led→Prop
 | nil:Tabs fz [] []
 | cons {i o is l}:TabOk fz i o→Tabs fz is l→Tabs fz (i::is) ((i.P,o)::l)
theorem Tabs.mono {fz fz':Led}(h:fz⊆fz') {is l} (x:Tabs fz is l):Tabs fz' is l:=
 x.rec (motive:=λ is l _=>Tabs fz' is l) .nil λ a _ b=>.cons (a.imp id λ h1=>h1.imp λ _ h2=>h2.imp λ _ h3=>h3.imp λ _ h4=>h4.imp_right λ h5=>h5.mono h) b
structure Inv (U:SubP) (K:Frag) (P:Params) (ti:List TabI) (fr:Led) (c:Cx) (σ:St) (ad:List Ad) (own tb fz:Led) (m:Str→Option Value) (s:Shared):Prop where
 F:Fr c.h₀ c.L s.heap m
 N:News c.h₀ c.L s.heap (own++(tb++(fr++fz)))
 nd:((own++(tb++(fr++fz))).map (·.1)).Nodup
 ow:OWs U K P ad fz ad σ.ho own
 tb:Tabs fz ti tb
 lo:Loc K P c ad fz m σ.loc
 og:(s.os,s.gens,s.drawn)=c.og
section
variable {α β γ δ:Type}{M:Model}{U:SubP}{K:Frag}{P:Params}{ti:List TabI}{fr:Led}{c:Cx}{RX:Cx→Led→Int→Value→Shared→Prop}
inductive OkP (U:SubP) (K:Frag) (P:Params) (ti:List TabI) (fr:Led) (c:Cx) (ad:List Ad) (fz:Led) (rel:List Ad→Led→α→β→Prop) (a:α) (σ:St) (v:β) (s:Shared):Prop
 | pk (ad':List Ad) (own tb fz':Led) (m:Str→Option Value):Pre ad ad'→fz⊆fz'→Inv U K P ti fr c σ ad' own tb fz' m s→rel ad' fz' a v→OkP U K P ti fr c ad fz rel a σ v s
noncomputable def Sd (M:Model) (U:SubP) (K:Frag) (P:Params) (ti:List TabI) (fr:Led) (RX:Cx→Led→Int→Value→Shared→Prop) (c:Cx) (ad:List Ad) (fz:Led) (rel:List Ad→Led→α→β→Prop) (t:Sem β) (r:Ou α) (s:Shared):Prop:=match r with
 | none=>True
 | some (.ok a σ)=>wpAny M c.A t (OkP U K P ti fr c ad fz rel a σ) (λ _ _=>False) s
 | some (.exc i)=>wpAny M c.A t (λ _ _=>False) (RX c (fr++fz) i) s
theorem OkP.up {ad ad':List Ad}{fz fz':Led}{rel:List Ad→Led→α→β→Prop}{a:α}{σ:St}{v:β}{s:Shared}(hp:Pre ad ad') (hf:fz⊆fz') (x:OkP U K P ti fr c ad' fz' rel a σ v s):OkP U K P ti fr c ad fz rel a σ v s:=
 x.casesOn λ _ _ _ _ _ a1 a2 a3 a4=>.pk _ _ _ _ _ (hp.trans a1) (λ _ h=>a2 (hf h)) a3 a4
noncomputable def RXm (RX:Cx→Led→Int→Value→Shared→Prop):Prop:=∀ c fz fz' i e s,fz⊆fz'→RX c fz' i e s→RX c fz i e s
theorem Sd.up (hRX:RXm RX) {ad ad':List Ad}{fz fz':Led}{rel:List Ad→Led→α→β→Prop}{t:Sem β}{r:Ou α}{s:Shared}(hp:Pre ad ad') (hf:fz⊆fz') (x:Sd M U K P ti fr RX c ad' fz' rel t r s):Sd M U K P ti fr RX c ad fz rel t r s:=by
 cases r with
 | none=>trivial
 | some r=>cases r with
  | ok a σ=>exact wpAny_mono x (λ v s' h=>h.up hp hf) λ _ _ h=>h
  | exc i=>exact wpAny_mono x (λ _ _ h=>h) λ e s' h=>hRX _ _ _ _ _ _ (λ q hq=>List.mem_append.mpr ((List.mem_append.mp hq).imp_right λ h=>hf h)) h
theorem Sd.seq (hRX:RXm RX) {ad:List Ad}{fz:Led}{rel:List Ad→Led→α→β→Prop}{rel':List Ad→Led→γ→δ→Prop}{t:Sem β}{f:β→Sem δ}{a:α}{σ:St}{r:Ou γ}{s:Shared}
  (h:Sd M U K P ti fr RX c ad fz rel t (ok a σ) s)
  (h2:∀ v s' ad' own tb fz' m,Pre ad ad'→fz⊆fz'→Inv U K P ti fr c σ ad' own tb fz' m s'→rel ad' fz' a v→Sd M U K P ti fr RX c ad' fz' rel' (f v) r s') :
  Sd M U K P ti fr RX c ad fz rel' (t >>= f) r s:=by
 have key:∀ v s',OkP U K P ti fr c ad fz rel a σ v s'→Sd M U K P ti fr RX c ad fz rel' (f v) r s':=λ v s' x=>x.casesOn λ _ _ _ _ _ a1 a2 a3 a4=>(h2 v s' _ _ _ _ _ a1 a2 a3 a4).up hRX a1 a2
 cases r with
 | none=>trivial
 | some r=>cases r with
  | ok b σ'=>exact wpAny_bind (wpAny_mono h (λ v s' q=>key v s' q) λ _ _ q=>q.elim)
  | exc i=>exact wpAny_bind (wpAny_mono h (λ v s' q=>key v s' q) λ _ _ q=>q.elim)
theorem Sd.bnd (hRX:RXm RX) {ad:List Ad}{fz:Led}{rel:List Ad→Led→α→β→Prop}{rel':List Ad→Led→γ→δ→Prop}{t:Sem β}{f:β→Sem δ}{r:Ou α}{k:α→St→Ou γ}{s:Shared}
  (h:Sd M U K P ti fr RX c ad fz rel t r s)
  (h2:∀ a σ v s' ad' own tb fz' m,Pre ad ad'→fz⊆fz'→Inv U K P ti fr c σ ad' own tb fz' m s'→rel ad' fz' a v→Sd M U K P ti fr RX c ad' fz' rel' (f v) (k a σ) s') :
  Sd M U K P ti fr RX c ad fz rel' (t >>= f) (bnd r k) s:=by
 cases r with
 | none=>trivial
 | some r=>cases r with
  | exc i=>exact wpAny_bind (wpAny_mono h (λ _ _ h=>h.elim) λ _ _ h=>h)
  | ok a σ=>exact Sd.seq hRX h (h2 a σ)
theorem Sd.lft {ad:List Ad}{fz:Led}{rel:List Ad→Led→γ→δ→Prop}{t:Sem δ}{x:Option α}{k:α→Ou γ}{s:Shared}
  (h:∀ a,x=some a→Sd M U K P ti fr RX c ad fz rel t (k a) s):Sd M U K P ti fr RX c ad fz rel t (lft x k) s:=by
 cases x with
 | none=>trivial
 | some a=>exact h a rfl
theorem Sd.gd {ad:List Ad}{fz:Led}{rel:List Ad→Led→γ→δ→Prop}{t:Sem δ}{b:Bool}{r:Ou γ}{s:Shared}
  (h:b=true→Sd M U K P ti fr RX c ad fz rel t r s):Sd M U K P ti fr RX c ad fz rel t (gd b r) s:=by
 cases b with
 | false=>trivial
 | true=>exact h rfl
theorem Sd.cd {ad:List Ad}{fz:Led}{rel:List Ad→Led→γ→δ→Prop}{t:Sem δ}{b:Bool}{r r':Ou γ}{s:Shared}
  (h:b=true→Sd M U K P ti fr RX c ad fz rel t r s) (h':b=false→Sd M U K P ti fr RX c ad fz rel t r' s):Sd M U K P ti fr RX c ad fz rel t (cd b r r') s:=by
 cases b with
 | false=>exact h' rfl
 | true=>exact h rfl
theorem Sd.bd {ad:List Ad}{fz:Led}{rel:List Ad→Led→γ→δ→Prop}{t:Sem δ}{x:Option α}{k:α→Ou γ}{s:Shared}
  (h:∀ a,x=some a→Sd M U K P ti fr RX c ad fz rel t (k a) s):Sd M U K P ti fr RX c ad fz rel t (bd x k) s:=Sd.lft h
theorem Sd.tr {ad:List Ad}{fz:Led}{rel:List Ad→Led→γ→δ→Prop}{t:Sem δ}{x:Option α}{k:α→Ou γ}{r:Ou γ}{s:Shared}
  (h:∀ a,x=some a→Sd M U K P ti fr RX c ad fz rel t (k a) s) (h':x=none→Sd M U K P ti fr RX c ad fz rel t r s):Sd M U K P ti fr RX c ad fz rel t (tr x k r) s:=by
 cases x with
 | none=>exact h' rfl
 | some a=>exact h a rfl
theorem Sd.wp {ad:List Ad}{fz:Led}{rel:List Ad→Led→γ→δ→Prop}{t t':Sem δ}{r:Ou γ}{s:Shared}(h:∀ Q E,wpAny M c.A t' Q E s→wpAny M c.A t Q E s) (x:Sd M U K P ti fr RX c ad fz rel t' r s):Sd M U K P ti fr RX c ad fz rel t r s:=by
 cases r with
 | none=>trivial
 | some r=>cases r with
  | ok a σ=>exact h _ _ x
  | exc i=>exact h _ _ x
theorem Sd.hold {ad:List Ad}{fz:Led}{rel:List Ad→Led→γ→δ→Prop}{t:Sem δ}{r:Ou γ}{vs:List Value}{s:Shared}(x:Sd M U K P ti fr RX c ad fz rel t r s):Sd M U K P ti fr RX c ad fz rel (holding vs t) r s:=
 x.wp λ _ _ h=>wpAny_holding h
theorem Sd.stand {ad:List Ad}{fz:Led}{rel:List Ad→Led→γ→δ→Prop}{t:Sem δ}{r:Ou γ}{p:Pos}{s:Shared}(x:Sd M U K P ti fr RX c ad fz rel t r s):Sd M U K P ti fr RX c ad fz rel (standAt p >>= λ _=>t) r s:=
 x.wp λ _ _ h=>wpAny_bind (wpAny_standAt h)
theorem Sd.oper {ad:List Ad}{fz:Led}{rel:List Ad→Led→γ→Value→Prop}{t:Sem Value}{r:Ou γ}{vs:List Value}{s:Shared}(x:Sd M U K P ti fr RX c ad fz rel t r s):Sd M U K P ti fr RX c ad fz rel (operate vs t) r s:=
 x.wp λ _ _ h=>wpAny_operating h
theorem Sd.ok {ad:List Ad}{own tb fz:Led}{m} {rel:List Ad→Led→γ→δ→Prop}{v:δ}{a:γ}{σ:St}{s:Shared}(I:Inv U K P ti fr c σ ad own tb fz m s) (h:rel ad fz a v):Sd M U K P ti fr RX c ad fz rel (pure v) (ok a σ) s:=
 wpAny_pure ⟨ad,own,tb,fz,m,.refl,λ _ h=>h,I,h⟩
theorem OkP.imp {ad:List Ad}{fz:Led}{rel:List Ad→Led→α→β→Prop}{rel':List Ad→Led→γ→δ→Prop}{a:α}{a':γ}{v:β}{v':δ}{σ:St}{s:Shared}(x:OkP U K P ti fr c ad fz rel a σ v s) (h:∀ ad fz,rel ad fz a v→rel' ad fz a' v'):OkP U K P ti fr c ad fz rel' a' σ v' s:=
 x.casesOn λ _ _ _ _ _ a1 a2 a3 a4=>.pk _ _ _ _ _ a1 a2 a3 (h _ _ a4)
theorem Sd.mono {ad:List Ad}{fz:Led}{rel rel':List Ad→Led→γ→δ→Prop}{t:Sem δ}{r:Ou γ}{s:Shared}(x:Sd M U K P ti fr RX c ad fz rel t r s) (h:∀ ad fz a v,rel ad fz a v→rel' ad fz a v):Sd M U K P ti fr RX c ad fz rel' t r s:=by
 cases r with
 | none=>trivial
 | some r=>cases r with
  | ok a σ=>exact wpAny_mono x (λ v s' h'=>h'.imp λ _ _=>h _ _ _ _) λ _ _ h=>h
  | exc i=>exact x
end
section
variable {U:SubP}{K:Frag}{P:Params}{ti:List TabI}{fr:Led}{c:Cx}{σ:St}{ad:List Ad}{own tb fz:Led}{m:Str→Option Value}{s:Shared}
theorem Inv.tok (I:Inv U K P ti fr c σ ad own tb fz m s) (t:Nat):Inv U K P ti fr c σ ad own tb fz m { s with toks:=t }:=⟨I.F,I.N,I.nd,I.ow,I.tb,I.lo,I.og⟩
theorem Inv.mem (I:Inv U K P ti fr c σ ad own tb fz m s) {a:Addr}{o:Obj}(h:(a,o)∈fz):s.heap.get? a=some o:=(I.N (a,o) (List.mem_append_right _ (List.mem_append_right _ (List.mem_append_right _ h)))).1
theorem Inv.hd (I:Inv U K P ti fr c σ ad own tb fz m s) (X:K.In c.h₀) {a:Addr}{o:Obj}(h:Hd K fz a o):s.heap.get? a=some o:=h.elim I.mem λ e=>I.F.keep _ _ (X _ _ e)
theorem Inv.push (I:Inv U K P ti fr c σ ad own tb fz m s) (o:Obj) (hf:o.isFreed=false:=by rfl):Inv U K P ti fr c σ ad own tb ((s.heap.objs.size,o)::fz) m { s with heap:=s.heap.push o }:=by
 have N:=I.N.push I.F o hf
 have hs:fz⊆(s.heap.objs.size,o)::fz:=λ _ h=>.tail _ h
 have sub:∀ p,p∈own++(tb++(fr++((s.heap.objs.size,o)::fz))) ↔ p∈(s.heap.objs.size,o)::(own++(tb++(fr++fz))):=by
  intro p;simp only [List.mem_append,List.mem_cons]
  constructor<;>(intro h;rcases h with h | h | h | h | h)<;>simp [h]
 have pm:(own++(tb++(fr++((s.heap.objs.size,o)::fz)))).Perm ((s.heap.objs.size,o)::(own++(tb++(fr++fz)))):=by
  rw [← List.append_assoc,← List.append_assoc,← List.append_assoc,← List.append_assoc]
  exact List.perm_middle
 refine ⟨I.F.push o,λ p hp=>N p ((sub p).mp hp),(pm.map _).nodup_iff.mpr ?_,I.ow.mono .refl hs,I.tb.mono hs,I.lo.mono .refl hs,I.og⟩
 refine List.nodup_cons.mpr ⟨λ h=>?_,I.nd⟩
 obtain ⟨q,hq,e⟩:=List.mem_map.mp h
 have:=Heap.lt_size (I.N q hq).1
 rw [e] at this
 exact Nat.lt_irrefl _ this
end
end
section
inductive zzj (P:Params):List (Str × Str)→List DictEntry→Prop
 | nil:zzj P [] []
 | cons {x y t u l es}:zzj P l es→zzj P ((x,y)::l) (⟨PyData.keyHash P x,.str x t,.str y u⟩::es)
theorem zzj.lit {P:Params}{l es} (h:zzj P l es):KeysLit P es:=h.rec (motive:=λ _ es _=>KeysLit P es) trivial λ _ b=>⟨⟨_,_,rfl,rfl⟩,b⟩
theorem zkb (x y:Str) (t:Tok):(Value.str x t).isStr y=sB x y:=by
 cases h:sB x y with
 | true=>rw [zqo.mp h];simp [Value.isStr]
 | false=>have:=zz5.mp h;simp [Value.isStr,this]
theorem zzj.find {P:Params}{x:Str}{l es} (h:zzj P l es):(match zqm x l with
  | some y=>∃ e u,es.find? (·.key.isStr x)=some e∧e.val=.str y u
  | none=>es.find? (·.key.isStr x)=none∧es.any (·.refKey)=false):=by
 induction h with
 | nil=>exact ⟨rfl,rfl⟩
 | @cons k y t u l es h ih=>
  have e1:zqm x ((k,y)::l)=cd (sB k x) (some y) (zqm x l):=rfl
  rw [e1,List.find?_cons,zkb,List.any_cons]
  cases q:sB k x with
  | true=>exact ⟨_,u,rfl,rfl⟩
  | false=>exact ih
theorem peek_flat {r:List Item}:∀ {k:Nat}{t:Tk},peekI r k=some t→(flat r)[k]? = some t:=by
 induction r with
 | nil=>exact nn
 | cons i r ih=>
  intro k t e
  cases i with
  | tk u=>cases k with
   | zero=>exact e
   | succ k=>exact ih e
  | sub f u l o=>cases k with
   | zero=>exact e
   | succ k=>exact nn e
structure zqr (K:Frag) (P:Params) (O:Out):Prop where
 glob:∀ x a,O.glob x=some a→(∃ v,nsIn K mainGlobals x=some (some v)∧VR K P [] [] a v)∨(∃ v,nsIn K mainGlobals x=some none∧bootBuiltins x=some v∧x ≠ "__name__" ∧ VR K P [] [] a v)
 attr:∀ c n,zzi c n=true→plainGet K c n=true∧hasDictIn K c=true∧findIn K (.ref c) n=some none
 set:∀ c n,zzi c n=true→findIn K (.ref c) "__setattr__" = some (some (.builtin "object.__setattr__"))∧plainOver K c=true∧takerIn K c n=some none
 within:∀ x y b,O.within x y=some b→(!(Builtin.Str.occurrences y x 0 y.length 1).isEmpty)=b
 res:∀ x b,O.res x=some b→(!(Builtin.Str.occurrences zq9 x 0 zq9.length 1).isEmpty)=b
 split:∀ x l,O.split x=some l→Txt.split x " " = l
 dict:∀ d l,O.dict d=some l→(d == sysModules)=false∧∃ es n,K.lookup d=some ⟨.type "dict",none,.dict es n,#[]⟩∧zzj P l es.toList
section
variable {prog:Program}{w:World}{K:Frag}{ti:List TabI}{fr:Led}{U:SubP}{c:Cx}{RX:Cx→Led→Int→Value→Shared→Prop}{O:Out}
 {σ:St}{ad:List Ad}{own tb fz:Led}{m:Str→Option Value}{s:Shared}
theorem OkP.mk {α β:Type}{P:Params}{rel:List Ad→Led→α→β→Prop}{a:α}{v:β}(I:Inv U K P ti fr c σ ad own tb fz m s) (h:rel ad fz a v):OkP U K P ti fr c ad fz rel a σ v s:=
 ⟨ad,own,tb,fz,m,.refl,λ _ h=>h,I,h⟩
theorem OkP.new {α β:Type}{P:Params}{fz':Led}{rel:List Ad→Led→α→β→Prop}{a:α}{v:β}(hs:fz⊆fz') (I:Inv U K P ti fr c σ ad own tb fz' m s) (h:rel ad fz' a v):OkP U K P ti fr c ad fz rel a σ v s:=
 ⟨ad,own,tb,fz',m,.refl,hs,I,h⟩
noncomputable abbrev EqB (_:List Ad) (_:Led) (a b:Bool):Prop:=a=b
noncomputable abbrev BoolV (_:List Ad) (_:Led) (a:Bool) (v:Value):Prop:=v=.bool a
inductive PlaceR (K:Frag) (P:Params) (ad:List Ad) (fz:Led) (x:Ad) (e k:Nat) (t:Tk):Prop
 | mk (toks:List Tk) (tvs:Array Value) (n:Nat):(x.t,listOf tvs n)∈fz→VRs K P ad fz (toks.map .tok) tvs.toList→toks[x.z e + k]? = some t→toks.length=x.n→toks.length < 2 ^ 20→PlaceR K P ad fz x e k t
theorem Inv.rdr {P:Params}{h:Nat}{r:Rd}{x:Ad}{Q:Prop}(I:Inv U K P ti fr c σ ad own tb fz m s) (hx:ad[h]? = some x) (hp:zjk σ h=some r)
  (k:∀ {tvs:Array Value}{n:Nat}{toks:List Tk},(x.t,listOf tvs n)∈fz→VRs K P ad fz (toks.map .tok) tvs.toList→flat r.rest=toks.drop (x.z r.e + r.k)→toks.length=x.n→toks.length < 2 ^ 20→Q):Q:=by
 obtain ⟨x',e',pre,post,h1,h2,h3,h4⟩:=I.ow.split (zki hp)
 cases Option.some.inj (hx.symm.trans h1)
 exact IRdr.casesOn (show IRdr U K P ad fz x r.e r.k r.rest r.nm e' from h2.inv) λ _ a2 a3 a4 a5 a6 _ _ _ _=>k a2 a3 a4 a5 a6
theorem Inv.place {P:Params}{h e k:Nat}{t:Tk}{x:Ad}(I:Inv U K P ti fr c σ ad own tb fz m s) (hx:ad[h]? = some x) (hp:placeA σ h e k=some t):PlaceR K P ad fz x e k t:=
 bd_q hp λ r h1 hp=>gd_q hp λ q1 hp=>gd_q hp λ q2 hp=>I.rdr hx h1 λ {_ _ toks} a2 a3 a4 a5 a6=>⟨_,_,_,a2,a3,by
  have g:=peek_flat hp
  rw [a4,List.getElem?_drop,Nat.add_assoc,Nat.add_sub_cancel' (Nat.le_of_ble_eq_true q2),Nat.eq_of_beq_eq_true q1] at g
  exact g,a5,a6⟩
theorem zkg {P:Params}{a:AV}{v:Value}{b:Bool}(I:Inv U K P ti fr c σ ad own tb fz m s) (ha:VR K P ad fz a v) (h:truthA σ a=some b) :
  Sd (model prog w) U K P ti fr RX c ad fz EqB (truthy v) (ok b σ) s:=by
 suffices G:∀ G:Value→Bool→Prop,(∀ t items n,(t,listOf items n)∈fz→items.size < 2 ^ 20→items.size≠0→G (.ref t) true)→(∀ b,G (.bool b) b)→(∀ i t,G (.int i t) (!decide (i=0)))→G .none false→G v b by
  refine G (λ v b=>Sd (model prog w) U K P ti fr RX c ad fz EqB (truthy v) (ok b σ) s) (λ t items n h1 h2 h3=>wpAny_truthy_list (items:=items) ⟨_,I.mem h1,rfl,n,rfl⟩ (by omega) (.mk (I.tok _) (by show true=_;simp [Array.isEmpty,h3]))) (λ _=>wpAny_truthy_bool (.mk I rfl)) (λ i t=>PyProof.Rows.truthy_int (.mk I (by
   show _=_
   by_cases q:i=0
   ·subst q;rfl
   ·simp [q]))) (truthy_none (.mk I rfl))
 intro G k1 k2 k3 k4
 refine tr_q h (λ i e h=>?_) λ h=>tr_q h (λ b e h=>sm_q (Q:=G v) h (ha.qBool (Q:=λ v=>G v _) e (k2 _))) λ h=>tr_q h (λ i e h=>sm_q (Q:=G v) h (ha.qInt (Q:=λ v=>G v _) e (k3 _))) λ h=>gd_q h λ e h=>sm_q (Q:=G v) h (ha.qNone (Q:=λ v=>G v false) e k4)
 refine bd_q h λ r h1 h2=>ha.qRtk (Q:=λ v=>G v b) e λ hx=>I.rdr hx h1 λ {tvs n toks} a2 a3 a4 a5 a6=>?_
 have hl:tvs.size=toks.length:=by
  have:=a3.plain (zxl toks)
  rwa [List.length_map,Array.length_toList] at this
 have h0:tvs.size≠0:=λ h0=>by
  rw [List.length_eq_zero_iff.mp (hl.symm.trans h0),List.drop_nil] at a4
  cases hr:r.rest with
  | nil=>rw [hr] at h2;exact nn h2
  | cons it l=>rw [hr] at a4;cases it<;>cases a4
 cases hr:r.rest with
 | nil=>rw [hr] at h2;exact nn h2
 | cons it l=>rw [hr] at h2;exact sm_q h2 (k1 _ _ _ a2 (hl▸a6) h0)
theorem zql {P:Params}(I:Inv U K P ti fr c σ ad own tb fz m s) (X:K.In c.h₀) {a:Addr}{vs:List Value}{n:Nat}{dd sl} (h:Hd K fz a ⟨.type "tuple",dd,.seq vs.toArray n,sl⟩):IsTup s.heap a vs.toArray:=
 ⟨_,I.hd X h,rfl,n,rfl⟩
theorem strs_of {P:Params}{l vs} (h:VRs K P ad fz l vs):∀ {ys},strsOf l=some ys→StrsAre vs ys:=
 h.rec1 (M:=λ l vs=>∀ ys,strsOf l=some ys→StrsAre vs ys) (λ _ e=>sm_q e .nil) (λ a _ ih _ e=>bd_q e λ _ h1 h2=>mp_q h2 λ _ h3=>a.qStr (Q:=λ v=>StrsAre (v::_) _) h1 λ _=>.cons _ _ (ih _ h3)) (λ _ _ _ _ _ _ e=>nn e) _
theorem strIn_any (x:Str) (ys:List Str):ys.any (· == x)=zxc x ys:=by
 induction ys with
 | nil=>rfl
 | cons y ys ih=>
  have e:zxc x (y::ys)=cd (sB y x) true (zxc x ys):=rfl
  rw [e,List.any_cons,ih]
  cases h:sB y x with
  | true=>rw [zqo.mp h];simp [cd]
  | false=>have:=zz5.mp h;simp [this,cd]
theorem sB_beq (x y:Str):(x == y)=sB x y:=by
 cases h:sB x y with
 | true=>rw [zqo.mp h];simp
 | false=>have:=zz5.mp h;simp [this]
theorem dict_map {d:Addr}{l:List (Str × Str)}{es:Array DictEntry}{n:Nat}{h:Heap}(X:K.In h) (hl:K.lookup d=some ⟨.type "dict",none,.dict es n,#[]⟩) (hd:zzj w.params l es.toList) :
  h.MapOf (strKind prog w) d (λ k=>findBy Value.isStrOf es k):=mapOf_K X hl hd.lit
theorem dict_has {P:Params}{d:Addr}{l:List (Str × Str)}{es:Array DictEntry}{n:Nat}(hl:K.lookup d=some ⟨.type "dict",none,.dict es n,#[]⟩) (hd:zzj P l es.toList) (x:Str):(findBy Value.isStrOf es x).isSome=(zqm x l).isSome:=by
 have h:=zzj.find (x:=x) hd
 cases q:zqm x l with
 | some y=>
  rw [q] at h
  obtain ⟨e,u,h1,h2⟩:=h
  rw [find_K hl (r:=some (.str y u)) (by unfold nsIn;rw [hl];dsimp only;rw [h1];dsimp only;rw [h2])]
  rfl
 | none=>
  rw [q] at h
  rw [find_K hl (r:=none) (by unfold nsIn;rw [hl];dsimp only;rw [h.1];dsimp only;rw [h.2];rfl)]
  rfl
theorem fd_map {d:Addr}{l:List Str}(I:Inv U K w.params ti fr c σ ad own tb fz m s) (h:FD w.params fz d l):(d == sysModules)=false∧∃ f,s.heap.MapOf (strKind prog w) d f∧∀ x,(f x).isSome=zxc x l:=by
 obtain ⟨es,n,hm,hk,hn,hf⟩:=h
 exact ⟨hn,_,⟨_,es.toArray,n,I.mem hm,⟨rfl,rfl,rfl⟩,rfl,λ e he=>by
  obtain ⟨x,t,e1,e2⟩:=hk.all e (by simpa using he)
  exact ⟨x,by rw [e1];exact strKind_is prog w x t,e2⟩,λ _=>rfl⟩,hf⟩
theorem int_dec (x y:Int):(x == y)=decide (x=y):=by by_cases q:x=y<;>simp [q]
section
variable {a b:AV}{va vb:Value}{r:Bool}
noncomputable abbrev zz2 (prog:Program) (w:World) (U:SubP) (K:Frag) (ti:List TabI) (fr:Led) (RX:Cx→Led→Int→Value→Shared→Prop) (c:Cx) (ad:List Ad) (fz:Led) (σ:St) (s:Shared) (op:CmpOp) (va vb:Value) (r:Bool):Prop:=Sd (model prog w) U K w.params ti fr RX c ad fz BoolV (compareOp op va vb) (ok r σ) s
theorem cmp_lt (I:Inv U K w.params ti fr c σ ad own tb fz m s) (ha:VR K w.params ad fz a va) (hb:VR K w.params ad fz b vb) (h:cmpLt σ a b=some r):zz2 prog w U K ti fr RX c ad fz σ s .Lt va vb r:=by
 refine tr_q h (λ p e h=>bd_q h λ h' e' h=>gd_q h λ q h=>?_) λ h=>bd_q h λ x e h=>mp_q h λ y e'=>ha.qInt e λ t=>hb.qInt e' λ u=>PyProof.Rows.lt_int (.mk I rfl)
 refine mp_q h λ t h1=>ha.qOff e λ ta hx=>hb.qRlen e' λ tb' hx'=>?_
 rw [← Nat.eq_of_beq_eq_true q,hx] at hx'
 cases Option.some.inj hx'
 obtain ⟨toks,tvs,n,g1,g2,g3,g4,g5⟩:=I.place hx h1
 have this:=Int.ofNat_lt.mpr (g4▸(List.getElem?_eq_some_iff.mp g3).1)
 exact PyProof.Rows.lt_int (.mk I (congrArg Value.bool (decide_eq_true this)))
theorem cmp_tup (X:K.In c.h₀) (hu:c.A.units < cLine) (I:Inv U K w.params ti fr c σ ad own tb fz m s) {l l':List AV}{v v':List Value}{x y n n' dd dd' sl sl'} (h1:Hd K fz x ⟨.type "tuple",dd,.seq v.toArray n,sl⟩) (h2:VRs K w.params ad fz l v) (h3:Hd K fz y ⟨.type "tuple",dd',.seq v'.toArray n',sl'⟩) (h4:VRs K w.params ad fz l' v') (h:cmpTup l l'=some r):zz2 prog w U K ti fr RX c ad fz σ s .Eq (.ref x) (.ref y) r:=by
 cases l' with
 | cons=>exact nn h
 | nil=>
  refine h4.qNil (Q:=λ v'=>Hd K fz y ⟨.type "tuple",dd',.seq v'.toArray n',sl'⟩→_) (λ h3=>?_) h3
  cases l with
  | nil=>exact sm_q h (h2.qNil (Q:=λ v=>Hd K fz x ⟨.type "tuple",dd,.seq v.toArray n,sl⟩→_) (λ h1=>PySem.SeqAt.eq_tupleAt (e:=λ _=>true) (zql I X h1) (zql I X h3) hu (λ j h1 h2=>absurd h1 (Nat.not_lt_zero _)) (.mk I rfl)) h1)
  | cons a l=>exact gd_q h λ q h=>sm_q h (h2.qCons (Q:=λ v=>Hd K fz x ⟨.type "tuple",dd,.seq v.toArray n,sl⟩→_) (by simpa using q) (λ h5 h6 h1=>PySem.SeqAt.eq_tupleAt (e:=λ _=>true) (zql I X h1) (zql I X h3) hu (λ j h1 h2=>absurd h2 (Nat.not_lt_zero _)) (.mk I (by simp))) h1)
theorem cmp_eq (X:K.In c.h₀) (hu:c.A.units < cLine) (I:Inv U K w.params ti fr c σ ad own tb fz m s) (ha:VR K w.params ad fz a va) (hb:VR K w.params ad fz b vb) (h:cmpEq a b=some r):zz2 prog w U K ti fr RX c ad fz σ s .Eq va vb r:=
 tr_q h (λ x e h=>mp_q h λ y e'=>ha.qStr e λ t=>hb.qStr e' λ u=>PyProof.Rows.eq_str (.mk I (congrArg Value.bool (sB_beq _ _))))
 λ h=>tr_q h (λ x e h=>mp_q h λ y e'=>ha.qInt e λ t=>hb.qInt e' λ u=>PyProof.Rows.eq_int (.mk I (congrArg Value.bool (int_dec _ _))))
 λ h=>bd_q h λ l e h=>bd_q h λ l' e' h=>ha.qTup e λ h1 h2=>hb.qTup e' λ h3 h4=>cmp_tup X hu I h1 h2 h3 h4 h
theorem has_dict (FA:zqr K w.params O) (X:K.In c.h₀) (I:Inv U K w.params ti fr c σ ad own tb fz m s) {d:Addr}{l:List (Str × Str)}(h:O.dict d=some l):(d == sysModules)=false∧∃ f,s.heap.MapOf (strKind prog w) d f∧∀ x,(f x).isSome=(zqm x l).isSome:=
 let ⟨h4,es,n,h5,h6⟩:=FA.dict _ _ h
 ⟨h4,_,dict_map (X.keeps I.F.keep) h5 h6,dict_has h5 h6⟩
theorem cmp_in (FA:zqr K w.params O) (X:K.In c.h₀) (I:Inv U K w.params ti fr c σ ad own tb fz m s) (ha:VR K w.params ad fz a va) (hb:VR K w.params ad fz b vb) (h:cmpIn O a b=some r):zz2 prog w U K ti fr RX c ad fz σ s .In va vb r:=by
 refine bd_q h λ x e h=>ha.qStr e λ t=>?_
 refine tr_q h (λ y e h=>hb.qStr e λ u=>P.in_str (.mk I (congrArg Value.bool (FA.within _ _ _ h)))) λ h=>?_
 refine tr_q h (λ l e h=>mp_q h λ ys h3=>hb.qTup e λ h1 h2=>in_tuple_strs (zql I X h1) (by simpa using strs_of h2 h3) (.mk I (congrArg Value.bool (strIn_any _ _)))) λ h=>?_
 refine tr_q h (λ d e h=>mp_q h λ l h3=>hb.qGref e (by
  obtain ⟨h4,f,h5,h6⟩:=has_dict (prog:=prog) FA X I h3
  exact wpAny_in_of (strKind_is prog w x t) h4 h5 (.mk (I.tok _) (congrArg Value.bool (h6 x))))) λ h=>?_
 refine tr_q h (λ l e h=>sm_q h (hb.qFd e λ h2=>by
  obtain ⟨h4,f,h5,h6⟩:=fd_map (prog:=prog) I h2
  exact wpAny_in_of (strKind_is prog w _ _) h4 h5 (.mk (I.tok _) (congrArg Value.bool (h6 x))))) λ h=>gd_q h λ e h=>hb.qRes e λ u=>P.in_str (.mk I (congrArg Value.bool (FA.res _ _ h)))
theorem cmp_ni (FA:zqr K w.params O) (X:K.In c.h₀) (I:Inv U K w.params ti fr c σ ad own tb fz m s) (ha:VR K w.params ad fz a va) (hb:VR K w.params ad fz b vb) (h:cmpNi O a b=some r):zz2 prog w U K ti fr RX c ad fz σ s .NotIn va vb r:=by
 refine bd_q h λ x e h=>ha.qStr e λ t=>?_
 refine tr_q h (λ l e h=>mp_q h λ ys h3=>hb.qTup e λ h1 h2=>notin_tuple_strs (zql I X h1) (by simpa using strs_of h2 h3) (.mk I (congrArg (λ x=>Value.bool (!x)) (strIn_any _ _)))) λ h=>?_
 refine bd_q h λ d e h=>mp_q h λ l h3=>hb.qGref e ?_
 obtain ⟨h4,f,h5,h6⟩:=has_dict (prog:=prog) FA X I h3
 exact wpAny_notIn_of (strKind_is prog w x t) h4 h5 (.mk (I.tok _) (congrArg (λ x=>Value.bool (!x)) (h6 x)))
@[elab_as_elim] theorem isNone_q {K:Frag}{P:Params}{v:Value}{G:Value→Bool→Prop}(ha:VR K P ad fz a v) (h:isNoneA a=some r) (k:G .none true) (k':∀ a,G (.ref a) false):G v r:=
 VR.rec (motive_1:=λ a v _=>isNoneA a=some r→G v r) (motive_2:=λ _ _ _=>True) (motive_3:=λ _ _ _=>True) (λ h=>sm_q h k) (λ _=>nn) (λ _ _=>nn) (λ _ _=>nn) (λ _ _ _ h=>sm_q h (k' _)) (λ _=>nn) (λ _ h=>sm_q h (k' _)) (λ _ _=>nn) (λ _=>nn) (λ _ h=>sm_q h (k' _)) (λ _=>nn) (λ _ _ _ _ _ h=>sm_q h (k' _))
  (λ _ _=>nn) (λ _=>nn) (λ _ _=>nn) (λ _ _=>nn) (λ _=>nn) trivial (λ _ _ _ _=>trivial) (λ _ _ _ _ _ _=>trivial) trivial (λ _ _ _ _ _ _ _=>trivial) ha h
theorem cmp_is (I:Inv U K w.params ti fr c σ ad own tb fz m s) (ha:VR K w.params ad fz a va) (hb:VR K w.params ad fz b vb) (h:cmpIs a b=some r):zz2 prog w U K ti fr RX c ad fz σ s .Is va vb r:=
 gd_q h λ e h=>hb.qNone e (isNone_q (G:=λ v r=>zz2 prog w U K ti fr RX c ad fz σ s .Is v .none r) ha h (is_none_none (.mk I rfl)) λ _=>is_ref_none (.mk I rfl))
theorem cmp_isn (I:Inv U K w.params ti fr c σ ad own tb fz m s) (ha:VR K w.params ad fz a va) (hb:VR K w.params ad fz b vb) (h:cmpIs a b=some r):zz2 prog w U K ti fr RX c ad fz σ s .IsNot va vb (!r):=
 gd_q h λ e h=>hb.qNone e (isNone_q (G:=λ v r=>zz2 prog w U K ti fr RX c ad fz σ s .IsNot v .none (!r)) ha h (isnot_none_none (.mk I rfl)) λ _=>isnot_ref_none (.mk I rfl))
theorem cmp_ne (I:Inv U K w.params ti fr c σ ad own tb fz m s) (ha:VR K w.params ad fz a va) (hb:VR K w.params ad fz b vb) (h:cmpNe a b=some r):zz2 prog w U K ti fr RX c ad fz σ s .NotEq va vb r:=
 bd_q h λ x e h=>mp_q h λ y e'=>ha.qStr e λ t=>hb.qStr e' λ u=>PyProof.Rows.ne_str (.mk I (congrArg (λ x=>Value.bool (!x)) (sB_beq _ _)))
theorem cmp_gt (I:Inv U K w.params ti fr c σ ad own tb fz m s) (ha:VR K w.params ad fz a va) (hb:VR K w.params ad fz b vb) (h:cmpGt a b=some r):zz2 prog w U K ti fr RX c ad fz σ s .Gt va vb r:=
 bd_q h λ x e h=>mp_q h λ y e'=>ha.qInt e λ t=>hb.qInt e' λ u=>PyProof.Rows.gt_int (.mk I rfl)
theorem cmp_ge (I:Inv U K w.params ti fr c σ ad own tb fz m s) (ha:VR K w.params ad fz a va) (hb:VR K w.params ad fz b vb) (h:cmpGe a b=some r):zz2 prog w U K ti fr RX c ad fz σ s .GtE va vb r:=
 bd_q h λ x e h=>mp_q h λ y e'=>ha.qInt e λ t=>hb.qInt e' λ u=>PyProof.Rows.ge_int (.mk I rfl)
end
theorem sd_cmp {op:CmpOp}{a b:AV}{va vb:Value}{r:Bool}(FA:zqr K w.params O) (X:K.In c.h₀) (hu:c.A.units < cLine) (I:Inv U K w.params ti fr c σ ad own tb fz m s) (ha:VR K w.params ad fz a va) (hb:VR K w.params ad fz b vb) (h:cmpA O σ op a b=some r):zz2 prog w U K ti fr RX c ad fz σ s op va vb r:=
 CmpOp.rec (motive:=λ op=>cmpA O σ op a b=some r→zz2 prog w U K ti fr RX c ad fz σ s op va vb r) (cmp_eq X hu I ha hb) (cmp_ne I ha hb) (cmp_lt I ha hb) nn (cmp_gt I ha hb) (cmp_ge I ha hb) (cmp_is I ha hb) (λ h=>mp_q (Q:=λ r=>zz2 prog w U K ti fr RX c ad fz σ s .IsNot va vb r) h λ _ h=>cmp_isn I ha hb h) (cmp_in FA X I ha hb) (cmp_ni FA X I ha hb) op h
end
end
section
theorem zxr {α:Type}(x:Str) (l:List (Str × α)):zqm x l=l.lookup x:=by
 induction l with
 | nil=>rfl
 | cons p l ih=>
  obtain ⟨y,a⟩:=p
  show cd (sB y x) (some a) (zqm x l)=_
  rw [List.lookup_cons,ih]
  cases h:sB y x with
  | true=>rw [zqo.mp h];simp [cd]
  | false=>have:=zz5.mp h;rw [beq_eq_false_iff_ne.mpr (Ne.symm this)];rfl
theorem kind_eq {sc:Scope}{x:Str}{k:NameKind}(h:zq2 x sc.names=some k):sc.names.lookup x=some k:=(zxr x sc.names).symm.trans h
theorem isK_eq {sc:Scope}{x:Str}{f:NameKind→Bool}{k:NameKind}(hf:∀ j,f j=true→j=k) (h:(Option.rec false f (zq2 x sc.names):Bool)=true):sc.names.lookup x=some k:=by
 cases q:zq2 x sc.names with
 | none=>rw [q] at h;cases h
 | some j=>rw [q] at h;exact (kind_eq q).trans (congrArg some (hf j h))
theorem zx5 {sc:Scope}{x:Str}(h:zqt sc x=true):sc.names.lookup x=some .local:=isK_eq (f:=NameKind.loc) (λ j h=>by cases j<;>first | rfl | cases h) h
theorem isFree_eq {sc:Scope}{x:Str}(h:isFree sc x=true):sc.names.lookup x=some .free:=isK_eq (f:=NameKind.fre) (λ j h=>by cases j<;>first | rfl | cases h) h
theorem isCel_eq {sc:Scope}{x:Str}(h:isCel sc x=true):sc.names.lookup x=some .cell:=isK_eq (f:=NameKind.cel) (λ j h=>by cases j<;>first | rfl | cases h) h
theorem baseOk_call {f:PySem.Expr}{as:List PySem.Expr}{ks:List Keyword}{p:Pos}{n:Str}{env:Env}{t:Sem Value}(h:zjg (.Call f as ks p)=true):attributeBase (.Call f as ks p) n env t=t:=by
 cases as with
 | cons=>exact PySem.Expr.casesOn (motive_1:=λ f=>attributeBase (.Call f _ ks p) n env t=t) f (λ _ _ _=>Eq.refl t) (λ _ _ _=>Eq.refl t) (λ _ _ _ _=>Eq.refl t) (λ _ _ _=>Eq.refl t) (λ _ _ _ _=>Eq.refl t) (λ _ _ _ _=>Eq.refl t) (λ _ _ _=>Eq.refl t) (λ _ _ _=>Eq.refl t) (λ _ _ _ _=>Eq.refl t) (λ _ _ _ _=>Eq.refl t) (λ _ _ _ _ _=>Eq.refl t) (λ _ _ _ _=>Eq.refl t) (λ _ _=>Eq.refl t) (λ _ _=>Eq.refl t) (λ _ _=>Eq.refl t) (λ _ _ _ _=>Eq.refl t) (λ _ _ _ _=>Eq.refl t) (λ _ _ _ _=>Eq.refl t) (λ _ _=>Eq.refl t) (λ _ _ _=>Eq.refl t) (λ _ _ _=>Eq.refl t) (λ _ _ _=>Eq.refl t) (λ _ _=>Eq.refl t) (λ _ _=>Eq.refl t) (λ _ _=>Eq.refl t) (λ _ _ _=>Eq.refl t) (λ _ _ _ _=>Eq.refl t)
 | nil=>cases ks with
  | cons=>exact PySem.Expr.casesOn (motive_1:=λ f=>attributeBase (.Call f _ _ p) n env t=t) f (λ _ _ _=>Eq.refl t) (λ _ _ _=>Eq.refl t) (λ _ _ _ _=>Eq.refl t) (λ _ _ _=>Eq.refl t) (λ _ _ _ _=>Eq.refl t) (λ _ _ _ _=>Eq.refl t) (λ _ _ _=>Eq.refl t) (λ _ _ _=>Eq.refl t) (λ _ _ _ _=>Eq.refl t) (λ _ _ _ _=>Eq.refl t) (λ _ _ _ _ _=>Eq.refl t) (λ _ _ _ _=>Eq.refl t) (λ _ _=>Eq.refl t) (λ _ _=>Eq.refl t) (λ _ _=>Eq.refl t) (λ _ _ _ _=>Eq.refl t) (λ _ _ _ _=>Eq.refl t) (λ _ _ _ _=>Eq.refl t) (λ _ _=>Eq.refl t) (λ _ _ _=>Eq.refl t) (λ _ _ _=>Eq.refl t) (λ _ _ _=>Eq.refl t) (λ _ _=>Eq.refl t) (λ _ _=>Eq.refl t) (λ _ _=>Eq.refl t) (λ _ _ _=>Eq.refl t) (λ _ _ _ _=>Eq.refl t)
  | nil=>exact PySem.Expr.casesOn (motive_1:=λ f=>zjg (.Call f [] [] p)=true→attributeBase (.Call f [] [] p) n env t=t) f (λ _ _ _ _=>Eq.refl t) (λ _ _ _ _=>Eq.refl t) (λ _ _ _ _ _=>Eq.refl t) (λ _ _ _ _=>Eq.refl t) (λ _ _ _ _ _=>Eq.refl t) (λ _ _ _ _ _=>Eq.refl t) (λ _ _ _ _=>Eq.refl t) (λ _ _ _ _=>Eq.refl t) (λ _ _ _ _ _=>Eq.refl t) (λ _ _ _ _ _=>Eq.refl t) (λ _ _ _ _ _ _=>Eq.refl t) (λ _ _ _ _ _=>Eq.refl t) (λ _ _ _=>Eq.refl t) (λ _ _ _=>Eq.refl t) (λ _ _ _=>Eq.refl t) (λ _ _ _ _ _=>Eq.refl t) (λ _ _ _ _ _=>Eq.refl t) (λ _ _ _ _ _=>Eq.refl t) (λ _ _ _=>Eq.refl t) (λ _ _ _ _=>Eq.refl t) (λ _ _ _ _=>Eq.refl t) (λ _ _ _ _=>Eq.refl t) (λ _ _ _=>Eq.refl t) (λ _ _ h=>Bool.noConfusion h) (λ _ _ _=>Eq.refl t) (λ _ _ _ _=>Eq.refl t) (λ _ _ _ _ _=>Eq.refl t) h
theorem zzh {v:PySem.Expr}{n:Str}{env:Env}{t:Sem Value}(h:zjg v=true):attributeBase v n env t=t:=
 PySem.Expr.casesOn (motive_1:=λ v=>zjg v=true→attributeBase v n env t=t) v (λ _ _ _ _=>Eq.refl t) (λ _ _ _ _=>Eq.refl t) (λ _ _ _ _ _=>Eq.refl t) (λ _ _ _ _=>Eq.refl t) (λ _ _ _ _ _=>Eq.refl t) (λ _ _ _ _ _=>Eq.refl t) (λ _ _ _ _=>Eq.refl t) (λ _ _ _ _=>Eq.refl t) (λ _ _ _ _ _=>Eq.refl t) (λ _ _ _ _ _=>Eq.refl t) (λ _ _ _ _ _ _=>Eq.refl t) (λ _ _ _ _ _=>Eq.refl t) (λ _ _ _=>Eq.refl t) (λ _ _ _=>Eq.refl t) (λ _ _ _=>Eq.refl t) (λ _ _ _ _ _=>Eq.refl t) (λ f as ks p h=>baseOk_call h) (λ _ _ _ _ _=>Eq.refl t) (λ _ _ _=>Eq.refl t) (λ _ _ _ _=>Eq.refl t) (λ _ _ _ _=>Eq.refl t) (λ _ _ _ _=>Eq.refl t) (λ _ _ _=>Eq.refl t) (λ _ _ _=>Eq.refl t) (λ _ _ _=>Eq.refl t) (λ _ _ _ _=>Eq.refl t) (λ _ _ _ _ _=>Eq.refl t) h
section
variable {prog:Program}{w:World}{K:Frag}{ti:List TabI}{fr:Led}{U:SubP}{c:Cx}{RX:Cx→Led→Int→Value→Shared→Prop}{O:Out}{P:Params}
 {σ:St}{ad:List Ad}{own tb fz:Led}{m:Str→Option Value}{s:Shared}
theorem Inv.newOf (I:Inv U K P ti fr c σ ad own tb fz m s) {h':Heap}{a:Addr}{o:Obj}(F:Fr c.h₀ c.L h' m) (N:News c.h₀ c.L h' ((a,o)::(own++(tb++(fr++fz))))) (hn:∀ p∈own++(tb++(fr++fz)),p.1 < a) (t:Nat) :
  Inv U K P ti fr c σ ad own tb ((a,o)::fz) m { s with heap:=h',toks:=t }:=by
 have hs:fz⊆(a,o)::fz:=λ _ h=>.tail _ h
 have pm:(own++(tb++(fr++((a,o)::fz)))).Perm ((a,o)::(own++(tb++(fr++fz)))):=by
  rw [← List.append_assoc,← List.append_assoc,← List.append_assoc,← List.append_assoc]
  exact List.perm_middle
 refine ⟨F,λ p hp=>N p (pm.mem_iff.mp hp),(pm.map _).nodup_iff.mpr ?_,I.ow.mono .refl hs,I.tb.mono hs,I.lo.mono .refl hs,I.og⟩
 refine List.nodup_cons.mpr ⟨λ h=>?_,I.nd⟩
 obtain ⟨q,hq,e⟩:=List.mem_map.mp h
 have:=hn q hq
 rw [e] at this
 exact Nat.lt_irrefl _ this
theorem Inv.lt (I:Inv U K P ti fr c σ ad own tb fz m s):∀ p∈own++(tb++(fr++fz)),p.1 < s.heap.objs.size:=λ p hp=>Heap.lt_size (I.N p hp).1
theorem Inv.snoc (I:Inv U K P ti fr c σ ad own tb fz m s) {h':Heap}{x:Ad}{o:HO}{e:Led}(F:Fr c.h₀ c.L h' m) (N:News c.h₀ c.L h' (e++(own++(tb++(fr++fz))))) (hn:∀ p∈own++(tb++(fr++fz)),∀ q∈e,p.1≠q.1) (hd:(e.map (·.1)).Nodup)
  (ho:OW U K P (ad++[x]) fz x o e) (t:Nat):Inv U K P ti fr c { σ with ho:=σ.ho++[o] } (ad++[x]) (own++e) tb fz m { s with heap:=h',toks:=t }:=by
 have hp:Pre ad (ad++[x]):=⟨[x],rfl⟩
 have pm:((own++e)++(tb++(fr++fz))).Perm (e++(own++(tb++(fr++fz)))):=by
  rw [← List.append_assoc e]
  exact List.Perm.append_right _ List.perm_append_comm
 refine ⟨F,λ p hp=>N p (pm.mem_iff.mp hp),(pm.map _).nodup_iff.mpr ?_,(I.ow.mono hp λ _ h=>h).snoc ho,I.tb,I.lo.mono hp λ _ h=>h,I.og⟩
 rw [List.map_append]
 refine List.nodup_append.mpr ⟨hd,I.nd,λ a ha b hb e=>?_⟩
 obtain ⟨q,hq,rfl⟩:=List.mem_map.mp ha
 obtain ⟨p,hp',rfl⟩:=List.mem_map.mp hb
 exact hn p hp' q hq e.symm
theorem sd_const {x:Const}{k:Nat}{pos:Pos}{a:AV}(I:Inv U K P ti fr c σ ad own tb fz m s) (h:constA x=some a) :
  Sd (model prog w) U K P ti fr RX c ad fz (VR K P) (eval (.Constant x k pos) c.env) (ok a σ) s:=
 Const.rec (motive:=λ x=>constA x=some a→Sd (model prog w) U K P ti fr RX c ad fz (VR K P) (eval (.Constant x k pos) c.env) (ok a σ) s) (λ h=>sm_q h (wpAny_Constant_none (.mk I .none))) (λ b h=>sm_q h (wpAny_Constant_bool (.mk I (.bool _)))) (λ i h=>sm_q h (wpAny_Constant_int (.mk (I.tok _) (.int _ _)))) (λ _=>nn) (λ _ _=>nn)
  (λ _ h=>sm_q h (wpAny_Constant_str (.mk (I.tok _) (.str _ _)))) (λ _=>nn) nn x h
theorem VR.nil {a v} (h:VR K P [] [] a v):VR K P ad fz a v:=h.mono ⟨ad,rfl⟩ (List.nil_subset _)
theorem Inv.inFz (I:Inv U K P ti fr c σ ad own tb fz m s) {q:Addr × Obj}(h:q∈fz):q∈own++(tb++(fr++fz)):=List.mem_append_right _ (List.mem_append_right _ (List.mem_append_right _ h))
theorem sd_name {p:Program}{loose:List Str}{mg mb:Str→Option Value}{k:Nat}{x:Str}{pos:Pos}(FA:zqr K P O) (Y:Ok p loose mg mb K c k) (I:Inv U K P ti fr c σ ad own tb fz m s) :
  Sd (model prog w) U K P ti fr RX c ad fz (VR K P) (eval (.Name x pos) c.env) (zju O c.sc x σ) s:=by
 refine Sd.cd (λ _=>trivial) λ hd=>Sd.lft λ k hk=>?_
 have hd:(x == ("__debug__":Str))=false:=beq_eq_false_iff_ne.mpr (zz5.mp hd)
 have q:=kind_eq hk
 cases k with
 | globalExplicit=>trivial
 | «local»=>
  refine Sd.lft λ a e=>?_
  obtain ⟨v,h1,h2⟩:=(I.lo x a e).1 q
  exact nameX_L I.F h1 (.mk I h2) Y.kf q hd
 | cell=>
  refine Sd.lft λ a e=>?_
  obtain ⟨cc,co,v,h1,h2,h3,h4⟩:=(I.lo x a e).2 (.inl q)
  exact nameX_C I.N h1 (I.inFz h2) h3 (.mk I h4) Y.kf q hd
 | free=>
  refine Sd.cd (λ _=>trivial) λ hn=>Sd.lft λ a e=>?_
  obtain ⟨cc,co,v,h1,h2,h3,h4⟩:=(I.lo x a e).2 (.inr q)
  exact nameX_F I.N h1 (I.inFz h2) h3 (.mk I h4) Y.kf q hd (beq_eq_false_iff_ne.mpr (zz5.mp hn))
 | globalImplicit=>
  refine Sd.lft λ a e=>?_
  rcases FA.glob x a e with ⟨v,h1,h2⟩ | ⟨v,h1,h2,h3,h4⟩
  ·exact nameX_K I.F Y.X Y.T h1 (.mk I h2.nil) Y.kf q hd
  ·exact nameX_B I.F Y.X Y.T h1 h2 h3 (.mk I h4.nil) Y.kf q hd
theorem tup_new {l:List AV}{vs:List Value}(I:Inv U K P ti fr c σ ad own tb fz m s) (h:VRs K P ad fz l vs) (hsz:vs.length≤100000) :
  wpAny (model prog w) c.A (newTuple vs) (OkP U K P ti fr c ad fz (VR K P) (.tup l) σ) (λ _ _=>False) s:=by
 refine newTuple_N I.F I.N (λ h' F' N'=>?_) (by rw [sizeLine_eq];omega)
 have I':=I.newOf F' N' I.lt s.toks
 exact .new (λ _ h=>.tail _ h) I' (.tup (.inl (.head _)) (h.mono .refl λ _ h=>.tail _ h))
end
end
section
section
variable {prog:Program}{w:World}{K:Frag}{ti:List TabI}{fr:Led}{U:SubP}{c:Cx}{RX:Cx→Led→Int→Value→Shared→Prop}{O:Out}
 {σ:St}{ad:List Ad}{own tb fz:Led}{m:Str→Option Value}{s:Shared}
theorem VR.handed {P:Params}{a v} (h:VR K P ad fz a v):handedIn v=true:=
 VR.rec (motive_1:=λ _ v _=>handedIn v=true) (motive_2:=λ _ _ _=>True) (motive_3:=λ _ _ _=>True) (Eq.refl true) (λ _=>(Eq.refl true)) (λ _ _=>(Eq.refl true)) (λ _ _=>(Eq.refl true)) (λ _ _ _=>(Eq.refl true)) (λ _=>(Eq.refl true)) (λ _=>(Eq.refl true)) (λ _ h=>h) (λ _=>(Eq.refl true)) (λ _=>(Eq.refl true)) (λ _=>(Eq.refl true)) (λ _ _ _ _ _=>(Eq.refl true))
  (λ _ _=>(Eq.refl true)) (λ _=>(Eq.refl true)) (λ _ _=>(Eq.refl true)) (λ _ _=>(Eq.refl true)) (λ _=>(Eq.refl true)) trivial (λ _ _ _ _=>trivial) (λ _ _ _ _ _ _=>trivial) trivial (λ _ _ _ _ _ _ _=>trivial) h
theorem VR.som {P:Params}{a b v} (e:some a=some b) (h:VR K P ad fz a v):VR K P ad fz b v:=Option.some.inj e▸h
inductive AtR (U:SubP) (K:Frag) (P:Params) (ho:List HO) (ad:List Ad) (own fz:Led) (i:Nat) (x:Ad) (o:HO):Prop
 | mk (e pre post):OW U K P ad fz x o e→own=pre++(e++post)→(∀ o' e',OW U K P ad fz x o' e'→OWs U K P ad fz ad (ho.set i o') (pre++(e'++post)))→AtR U K P ho ad own fz i x o
theorem Inv.at {P:Params}(I:Inv U K P ti fr c σ ad own tb fz m s) {i:Nat}{o:HO}{x:Ad}(h:σ.ho[i]? = some o) (hx:ad[i]? = some x):AtR U K P σ.ho ad own fz i x o:=
 (I.ow.split h).casesOn λ y _ _ _ h1 h2 h3 h4=>rfl_of (Q:=λ x=>AtR U K P σ.ho ad own fz i x o) (Option.some.inj (h1.symm.trans hx)) ⟨_,_,_,h2,h3,h4⟩
theorem Inv.ownMem {P:Params}(I:Inv U K P ti fr c σ ad own tb fz m s) {e pre post:Led}(h:own=pre++(e++post)) {p:Addr × Obj}(hp:p∈e):p∈own++(tb++(fr++fz)):=by
 rw [h];simp [hp]
theorem Inv.fzMem {P:Params}(_I:Inv U K P ti fr c σ ad own tb fz m s) {p:Addr × Obj}(hp:p∈fz):p∈own++(tb++(fr++fz)):=by simp [hp]
theorem FR.get {P:Params}{n:Str}{f es} (h:FR K P ad fz f es):(match zqm n f with
  | some a=>∃ v,getL n es=some (some v)∧VR K P ad fz a v
  | none=>getL n es=some none):=by
 induction h with
 | nil=>rfl
 | @cons k a t v f es h b ih=>
  have e1:zqm n ((k,a)::f)=cd (sB k n) (some a) (zqm n f):=rfl
  simp only [e1,getL,List.find?_cons,zkb,List.any_cons]
  cases q:sB k n with
  | true=>exact ⟨v,rfl,h⟩
  | false=>exact ih
theorem FR.getS {P:Params}{n:Str}{f es a} {Q:Prop}(h:FR K P ad fz f es) (e:zqm n f=some a) (k:∀ v,getL n es=some (some v)→VR K P ad fz a v→Q):Q:=by
 have:=h.get (n:=n)
 rw [e] at this
 obtain ⟨v,a1,a2⟩:=this
 exact k v a1 a2
theorem FR.getN {P:Params}{n:Str}{f es} (h:FR K P ad fz f es) (e:zqm n f=none):getL n es=some none:=by
 have:=h.get (n:=n)
 rw [e] at this
 exact this
theorem get_inst {p:Program}{loose:List Str}{mg mb:Str→Option Value}{k:Nat}{x C dx:Addr}{es:List DictEntry}{nn:Nat}{n:Str}{v:Value}{expr:Bool}{Q:Value→Shared→Prop}{E:Value→Shared→Prop}{P:Params}(FA:zqr K P O) (Y:Ok p loose mg mb K c k) (I:Inv U K P ti fr c σ ad own tb fz m s)
  (h1:(x,instObj C dx)∈own++(tb++(fr++fz))) (h2:(dx,dictOf es nn)∈own++(tb++(fr++fz))) (ha:zzi C n=true) (hl:getL n es=some (some v)) (hv:handedIn v=true) (h:Q v { s with toks:=s.toks + 1 }) :
  wpAny (model prog w) c.A (getAttr (.ref x) n expr) Q E s:=
 let ⟨f1,f2,f3⟩:=FA.attr C n ha
 get_own I.F Y.X (InstAt.of_news I.N h1 h2) f1 f2 f3 rfl hl hv h
theorem sd_attr {p:Program}{loose:List Str}{mg mb:Str→Option Value}{k:Nat}{o:AV}{n:Str}{v:Value}(FA:zqr K w.params O) (Y:Ok p loose mg mb K c k) (I:Inv U K w.params ti fr c σ ad own tb fz m s) (hv:VR K w.params ad fz o v) :
  Sd (model prog w) U K w.params ti fr RX c ad fz (VR K w.params) (getAttr v n true) (lft (attrA σ o n) λ v=>ok v σ) s:=by
 refine Sd.lft λ a e=>?_
 suffices G:∀ G:Value→Prop,(∀ {x C dx es nn v},(x,instObj C dx)∈own++(tb++(fr++fz))→(dx,dictOf es nn)∈own++(tb++(fr++fz))→zzi C n=true→getL n es=some (some v)→VR K w.params ad fz a v→G (.ref x))→G v from
  G (λ v=>wpAny (model prog w) c.A (getAttr v n true) (OkP U K w.params ti fr c ad fz (VR K w.params) a σ) (λ _ _=>False) s) λ h1 h2 h3 h4 h5=>get_inst FA Y I h1 h2 h3 h4 h5.handed (.mk (I.tok _) h5)
 intro G hG
 refine tr_q e (λ t et e=>hv.qTok et λ h=>?_) λ e=>bd_q e λ i ei e=>hv.qHnd ei λ {x} hx=>tr_q e (λ q hq e=>?_) λ e=>bd_q e λ r hr e=>?_
 ·obtain ⟨td,es,nn,ta,t1,t2,t3,t4,n',dd,sl,a1,a2,a3,a4,a5,a6⟩:=h
  refine cd_q e (λ q e=>?_) λ _ e=>cd_q e (λ q e=>?_) λ _ e=>gd_q e λ q e=>?_
  ·exact hG (I.inFz a1) (I.inFz a2) (sB_q q rfl) (sB_q q a3) (.som e (.str _ _))
  ·exact hG (I.inFz a1) (I.inFz a2) (sB_q q rfl) (sB_q q a4) (.som e (.str _ _))
  ·exact hG (I.inFz a1) (I.inFz a2) (sB_q q rfl) (sB_q q a5) (.som e (.tup a6 (.cons (.int _ _) (.cons (.int _ _) .nil))))
 ·refine gd_q e λ ha e=>?_
  obtain ⟨e',pre,post,h2,h3,h4⟩:=I.at (instAt_e hq) hx
  exact IInst.casesOn (motive:=λ e' _=>own=pre++(e'++post)→G (.ref x.a)) (show IInst K w.params ad fz x q.1 q.2 e' from h2.inv) (λ {es nn} hf h3=>hf.getS e λ v g1 g2=>hG (I.ownMem h3 (.head _)) (I.ownMem h3 (.tail _ (.head _))) ha g1 g2) h3
 ·obtain ⟨e',pre,post,h2,h3,h4⟩:=I.at (zki hr) hx
  refine IRdr.casesOn (motive:=λ e' _=>own=pre++(e'++post)→G (.ref x.a)) (show IRdr U K w.params ad fz x r.e r.k r.rest r.nm e' from h2.inv) (λ a1 _ _ _ _ _ _ _ _ a10 h3=>?_) h3
  have key:=λ {v} g1 g2 g3=>hG (v:=v) (I.inFz a1) (I.ownMem h3 (.head _)) g1 g2 g3
  refine cd_q e (λ q e=>?_) λ _ e=>cd_q e (λ q e=>?_) λ _ e=>gd_q e λ q e=>?_
  ·exact key (sB_q q rfl) (sB_q q rfl) (.som e a10)
  ·exact key (sB_q q rfl) (sB_q q rfl) (.som e (.off _ hx))
  ·exact key (sB_q q rfl) (sB_q q rfl) (.som e (.rtk hx))
end
end
section
section
variable {prog:Program}{w:World}{K:Frag}{ti:List TabI}{fr:Led}{U:SubP}{c:Cx}{RX:Cx→Led→Int→Value→Shared→Prop}{O:Out}
 {σ:St}{ad:List Ad}{own tb fz:Led}{m:Str→Option Value}{s:Shared}
noncomputable def MulT (prog:Program) (w:World):Prop:=∀ {A:Around}{E:Value→Shared→Prop}{s:Shared}{h₀:Heap}{L:Addr}{m:Str→Option Value}{news:Led}{t:Addr}{v:Value}{x:Nat}{u:Tok}{Q:Value→Shared→Prop},
 Fr h₀ L s.heap m→News h₀ L s.heap news→IsTup s.heap t [v].toArray→x≤1000 →
 (∀ a h' tk n,Fr h₀ L h' m→News h₀ L h' ((a,zkd (List.replicate x v) n)::news)→(∀ p∈news,p.1 < a)→Q (.ref a) { s with heap:=h',toks:=tk }) →
 (x=1→Q (.ref t) s)→wpAny (model prog w) A (binaryOp .Mult (.ref t) (.int (Int.ofNat x) u)) Q E s
theorem VRs.rep {P:Params}{a v} (h:VR K P ad fz a v) (n:Nat):VRs K P ad fz (List.replicate n a) (List.replicate n v):=Nat.rec .nil (λ _ ih=>.cons h ih) n
theorem zx9 {k n:Nat}(h:k < n):seqIndex? (Int.ofNat k) n=some k:=by
 have h1:¬ ((k:Int) < 0):=by omega
 simp [seqIndex?,h1,h]
section
variable {a b r:AV}{va vb:Value}
noncomputable abbrev SdBin (prog:Program) (w:World) (U:SubP) (K:Frag) (ti:List TabI) (fr:Led) (RX:Cx→Led→Int→Value→Shared→Prop) (c:Cx) (ad:List Ad) (fz:Led) (σ:St) (s:Shared) (op:Operator) (va vb:Value) (r:AV):Prop:=Sd (model prog w) U K w.params ti fr RX c ad fz (VR K w.params) (binaryOp op va vb) (ok r σ) s
theorem bin_tup (X:K.In c.h₀) (I:Inv U K w.params ti fr c σ ad own tb fz m s) {l l':List AV}{v v':List Value}{x y n n' dd dd' sl sl'} (h1:Hd K fz x ⟨.type "tuple",dd,.seq v.toArray n,sl⟩) (h2:VRs K w.params ad fz l v) (h3:Hd K fz y ⟨.type "tuple",dd',.seq v'.toArray n',sl'⟩) (h4:VRs K w.params ad fz l' v') (h:wtA l + wtA l'≤100000):SdBin prog w U K ti fr RX c ad fz σ s .Add (.ref x) (.ref y) (.tup (l++l')):=by
 have h5:=h2.append h4
 have h6:v.length + v'.length≤100000:=Nat.le_trans (Nat.add_le_add h2.len h4.len) h
 refine add_tuples I.F I.N (zql I X h1) (zql I X h3) (λ e=>.mk I (.tup h3 ?_)) (λ _ e=>.mk I (.tup h1 ?_)) (λ _ _ h' F' N'=>.new (λ _ h=>.tail _ h) (I.newOf F' N' I.lt s.toks) (.tup (.inl (.head _)) (h5.mono .refl λ _ h=>.tail _ h))) (by rw [sizeLine_eq];omega)
 ·rwa [e,List.nil_append] at h5
 ·rwa [e,List.append_nil] at h5
theorem bin_add (X:K.In c.h₀) (I:Inv U K w.params ti fr c σ ad own tb fz m s) (ha:VR K w.params ad fz a va) (hb:VR K w.params ad fz b vb) (h:binAdd a b=some r):SdBin prog w U K ti fr RX c ad fz σ s .Add va vb r:=
 tr_q h (λ p e h=>mp_q h λ n e'=>ha.qOff e λ {x} t hx=>hb.qNat e' λ u=>PyProof.Rows.add_int (.mk (I.tok _) (by
  have:((x.z p.2.1 + p.2.2:Nat):Int) + Int.ofNat n=((x.z p.2.1 + (p.2.2 + n):Nat):Int):=by rw [← Nat.add_assoc];rfl
  rw [this]
  exact .off _ hx)))
 λ h=>tr_q h (λ x e h=>mp_q h λ y e'=>ha.qInt e λ t=>hb.qInt e' λ u=>PyProof.Rows.add_int (.mk (I.tok _) (.int _ _)))
 λ h=>tr_q h (λ x e h=>bd_q h λ y e' h=>gd_q h λ q h=>sm_q h (ha.qTup e λ h1 h2=>hb.qTup e' λ h3 h4=>bin_tup X I h1 h2 h3 h4 (Nat.le_of_ble_eq_true q)))
 λ h=>bd_q h λ x e h=>bd_q h λ y e' h=>gd_q h λ q h=>sm_q h (ha.qStr e λ t=>hb.qStr e' λ u=>PyProof.Rows.add_str (λ t' tk=>.mk (I.tok _) (.str _ _)) (by rw [sizeLine_eq];have:=Nat.le_of_ble_eq_true q;omega))
theorem bin_sub (I:Inv U K w.params ti fr c σ ad own tb fz m s) (ha:VR K w.params ad fz a va) (hb:VR K w.params ad fz b vb) (h:binSub a b=some r):SdBin prog w U K ti fr RX c ad fz σ s .Sub va vb r:=
 tr_q h (λ i e h=>bd_q h λ n e' h=>gd_q h λ q h=>sm_q h (ha.qRlen e λ t hx=>hb.qNat e' λ u=>by
  rw [Nat.eq_of_beq_eq_true q]
  exact PyProof.Rows.sub_int (.mk (I.tok _) (.rlast _ hx))))
 λ h=>bd_q h λ x e h=>mp_q h λ y e'=>ha.qInt e λ t=>hb.qInt e' λ u=>PyProof.Rows.sub_int (.mk (I.tok _) (.int _ _))
theorem bin_rep (hM:MulT prog w) (X:K.In c.h₀) (I:Inv U K w.params ti fr c σ ad own tb fz m s) {x:Addr}{v:Value}{n k:Nat}{dd sl t} (h1:Hd K fz x ⟨.type "tuple",dd,.seq [v].toArray n,sl⟩) (h2:VR K w.params ad fz a v) (q:k≤1000):SdBin prog w U K ti fr RX c ad fz σ s .Mult (.ref x) (.int (Int.ofNat k) t) (.tup (List.replicate k a)):=
 hM I.F I.N (zql I X h1) q (λ a h' tk n F' N' hn=>.new (λ _ h=>.tail _ h) (I.newOf F' N' hn tk) (.tup (.inl (.head _)) ((VRs.rep h2 _).mono .refl λ _ h=>.tail _ h))) (λ e=>.mk I (.tup h1 (by rw [e];exact .cons h2 .nil)))
theorem bin_mul (hM:MulT prog w) (X:K.In c.h₀) (I:Inv U K w.params ti fr c σ ad own tb fz m s) (ha:VR K w.params ad fz a va) (hb:VR K w.params ad fz b vb) (h:binMul a b=some r):SdBin prog w U K ti fr RX c ad fz σ s .Mult va vb r:=
 bd_q h λ l e h=>bd_q h λ n e' h=>gd_q h λ q h=>bd_q h λ x e1 h=>mp_q h λ y e2=>ha.qTup e λ {vs a n' dd sl} h1 h2=>hb.qNat e' λ u=>by
  have h2:=zj4 (Q:=λ l=>VRs K w.params ad fz l vs→VRs K w.params ad fz [x] vs) e1 id h2
  cases AV.str_e e2
  exact h2.qCons (Q:=λ vs=>Hd K fz a ⟨.type "tuple",dd,.seq vs.toArray n',sl⟩→_) rfl (λ {v vs} h3 h4=>h4.qNil (Q:=λ vs=>Hd K fz a ⟨.type "tuple",dd,.seq (v::vs).toArray n',sl⟩→_) λ h1=>bin_rep hM X I h1 h3 (Nat.le_of_ble_eq_true q)) h1
theorem sd_bin {op:Operator}(hM:MulT prog w) (X:K.In c.h₀) (I:Inv U K w.params ti fr c σ ad own tb fz m s) (ha:VR K w.params ad fz a va) (hb:VR K w.params ad fz b vb) (h:binA op a b=some r):SdBin prog w U K ti fr RX c ad fz σ s op va vb r:=
 Operator.rec (motive:=λ op=>binA op a b=some r→SdBin prog w U K ti fr RX c ad fz σ s op va vb r) (bin_add X I ha hb) (bin_sub I ha hb) (bin_mul hM X I ha hb) nn nn nn nn nn nn nn nn nn nn op h
end
theorem ofNat_lt {k:Nat}(h:k≤1000):(Int.ofNat k) < 2 ^ 63:=by simp only [Int.ofNat_eq_natCast];omega
theorem sub_all {slice:PySem.Expr}{a b:Value}(h:operate [a,b] (getItem a b)=operate [a,b] (getItem a b)):zjn slice=true→subscripted slice false a b=operate [a,b] (getItem a b):=
 PySem.Expr.casesOn (motive_1:=λ e=>zjn e=true→subscripted e false a b=operate [a,b] (getItem a b)) slice (λ _ _ _ _=>h) (λ _ _ _ _=>h) (λ _ _ _ _ _=>h) (λ _ _ _ _=>h) (λ _ _ _ _ _=>h) (λ _ _ _ _ _=>h) (λ _ _ _ _=>h) (λ _ _ _ _=>h) (λ _ _ _ _ _=>h) (λ _ _ _ _ _=>h) (λ _ _ _ _ _ _=>h) (λ _ _ _ _ _=>h) (λ _ _ _=>h) (λ _ _ _=>h) (λ _ _ _=>h) (λ _ _ _ _ _=>h) (λ _ _ _ _ _=>h) (λ _ _ _ _ _=>h) (λ _ _ _=>h) (λ _ _ _ _=>h) (λ _ _ _ _=>h) (λ _ _ _ _=>h) (λ _ _ _=>h) (λ _ _ _=>h) (λ _ _ _=>h) (λ _ _ _ _=>h) (λ _ _ _ _ h=>Bool.noConfusion h)
theorem sub_ok (slice:PySem.Expr) (h:zjn slice=true) (a b:Value):subscripted slice false a b=operate [a,b] (getItem a b):=sub_all rfl h
section
variable {a:AV}{vo vi:Value}{value slice:PySem.Expr}
noncomputable abbrev zj2 (prog:Program) (w:World) (U:SubP) (K:Frag) (ti:List TabI) (fr:Led) (RX:Cx→Led→Int→Value→Shared→Prop) (c:Cx) (ad:List Ad) (fz:Led) (σ:St) (s:Shared) (value slice:PySem.Expr) (a:AV) (vo vi:Value):Prop:=Sd (model prog w) U K w.params ti fr RX c ad fz (VR K w.params) (subscriptTail value slice vo vi) (ok a σ) s
noncomputable abbrev SubOk (slice:PySem.Expr):Prop:=∀ a b,subscripted slice false a b=operate [a,b] (getItem a b)
theorem nth_lt {l:List Value}{k:Nat}{v:Value}(h:l[k]? = some v):k < l.toArray.size:=(List.getElem?_eq_some_iff.mp h).1
theorem item_tup (hs:SubOk slice) (I:Inv U K w.params ti fr c σ ad own tb fz m s) (X:K.In c.h₀) {l:List AV}{k:Int}{vs:List Value}{x n dd sl t} (h1:Hd K fz x ⟨.type "tuple",dd,.seq vs.toArray n,sl⟩) (h2:VRs K w.params ad fz l vs) (e:itemN l k=some a):zj2 prog w U K ti fr RX c ad fz σ s value slice a (.ref x) (.int k t):=
 bd_q e λ j e1 e=>gd_q e λ q e=>nat_q e1 (by
  obtain ⟨v,g1,g2⟩:=h2.nth e
  have q:=Nat.le_of_ble_eq_true q
  exact item_tupleT (zql I X h1) (Int.le_trans (Int.negSucc_lt_zero _ |> Int.le_of_lt) (Int.natCast_nonneg _)) (ofNat_lt q) (j:=_) (zx9 (nth_lt g1)) g1 (.mk I g2) (hs _ _))
theorem item_str (hs:SubOk slice) (I:Inv U K w.params ti fr c σ ad own tb fz m s) {x:Str}{k:Int}{t u} (e:itemS x k=some a):zj2 prog w U K ti fr RX c ad fz σ s value slice a (.str x t) (.int k u):=
 bd_q e λ j e1 e=>gd_q e λ q e=>nat_q e1 (mp_q e λ cp h1=>by
  have q:=Nat.le_of_ble_eq_true q
  have hlt:=(List.getElem?_eq_some_iff.mp h1).1
  refine tail_any (typeIs_str _ _ _) F.slot_str_getitem.lookup (P.getItem_str ?_ ?_ (.mk (I.tok _) (.str _ _))) (hs _ _)
  ·simp only [Int.ofNat_eq_natCast,Bool.or_eq_false_iff,decide_eq_false_iff_not]
   omega
  ·rw [zx9 (show j < x.length from by show j < x.cps.size;simpa using hlt),Option.bind_some,← Array.getElem?_toList]
   exact h1)
theorem item_dict (hs:SubOk slice) (I:Inv U K w.params ti fr c σ ad own tb fz m s) (FA:zqr K w.params O) (X:K.In c.h₀) {d:Nat}{x:Str}{t} (e:bd (O.dict d) (λ l=>mp .str (zqm x l))=some a):zj2 prog w U K ti fr RX c ad fz σ s value slice a (.ref d) (.str x t):=
 bd_q e λ l h3 e=>mp_q e λ y h5=>by
  obtain ⟨h6,es,n,h7,h8⟩:=FA.dict _ _ h3
  have:=zzj.find (x:=x) h8
  rw [h5] at this
  obtain ⟨en,u,g1,g2⟩:=this
  exact topItem_K I.F X h7 h8.lit (by unfold nsIn;rw [h7];dsimp only;rw [g1];dsimp only;rw [g2]) (.mk (I.tok _) (.str _ _)) (hs _ _)
theorem item_tok (hs:SubOk slice) (I:Inv U K w.params ti fr c σ ad own tb fz m s) {h e k:Nat}{t:Tk}{x:Ad}{u} (hx:ad[h]? = some x) (h1:placeA σ h e k=some t):zj2 prog w U K ti fr RX c ad fz σ s value slice (.tok t) (.ref x.t) (.int ((x.z e + k:Nat):Int) u):=by
 obtain ⟨toks,tvs,n,g1,g2,g3,g4,g5⟩:=I.place hx h1
 have hlt:=(List.getElem?_eq_some_iff.mp g3).1
 have hl:s.heap.IsList x.t tvs:=⟨_,I.mem g1,rfl,n,rfl⟩
 obtain ⟨v,k1,k2⟩:=VRs.nth_toks g2 g3
 refine tail_any hl.typeIs slot_list_getitem.lookup (wpAny_getItem_list hl (by omega) (by omega) ?_ (.mk I k2)) (hs _ _)
 rw [Int.toNat_natCast,← Array.getElem?_toList]
 exact k1
theorem item_lst (hs:SubOk slice) (I:Inv U K w.params ti fr c σ ad own tb fz m s) {h:Nat}{k:Int}{l:List AV}{x:Ad}{t} (hx:ad[h]? = some x) (q1:zkn σ h=some l) (e:itemN l k=some a):zj2 prog w U K ti fr RX c ad fz σ s value slice a (.ref x.a) (.int k t):=
 bd_q e λ j e1 e=>gd_q e λ q e=>nat_q e1 (by
  obtain ⟨e',pre,post,h2,h3,h4⟩:=I.at (zjp q1) hx
  refine ILst.casesOn (motive:=λ e' _=>own=pre++(e'++post)→_) (show ILst K w.params ad fz x l e' from h2.inv) (λ hf h3=>?_) h3
  obtain ⟨v,g1,g2⟩:=hf.nth e
  have hl:s.heap.IsList _ _:=⟨_,(I.N _ (I.ownMem h3 (.head _))).1,rfl,_,rfl⟩
  exact tail_any hl.typeIs slot_list_getitem.lookup (wpAny_getItem_list hl (Int.natCast_nonneg _) (ofNat_lt (Nat.le_of_ble_eq_true q)) (by simpa using g1) (.mk I g2)) (hs _ _))
theorem item_lstf (hs:SubOk slice) (I:Inv U K w.params ti fr c σ ad own tb fz m s) (X:K.In c.h₀) {h:Nat}{p:List AV × AV}{x:Ad}{t} (hx:ad[h]? = some x) (hi':lstfAt σ h=some p):zj2 prog w U K ti fr RX c ad fz σ s value slice p.2 (.ref x.a) (.int ((x.z 0 + 0:Nat):Int) t):=by
 obtain ⟨e',pre,post,h2,h3,h4⟩:=I.at (lstfAt_e hi') hx
 refine ILstf.casesOn (show ILstf K w.params ad fz x p.1 p.2 e' from h2.inv) λ {vs n v ob} k1 k2 k3 g1 g0 g2 g3=>?_
 have hlt:=(List.getElem?_eq_some_iff.mp g2).1
 rcases k2 with k2 | k2
 ·have hl:s.heap.IsList x.a vs.toArray:=⟨_,I.hd X k1,k2,_,k3⟩
  refine tail_any hl.typeIs slot_list_getitem.lookup (wpAny_getItem_list hl (by omega) (by omega) ?_ (.mk I g3)) (hs _ _)
  rw [Int.toNat_natCast]
  simpa using g2
 ·exact item_tupleT ⟨_,I.hd X k1,k2,_,k3⟩ (by omega) (by omega) (j:=x.z 0 + 0) (zx9 hlt) g2 (.mk I g3) (hs _ _)
theorem item_hnd (hs:SubOk slice) (I:Inv U K w.params ti fr c σ ad own tb fz m s) (X:K.In c.h₀) {h:Nat}{i:AV}{x:Ad}(hx:ad[h]? = some x) (hi:VR K w.params ad fz i vi) (e:itemH σ h i=some a):zj2 prog w U K ti fr RX c ad fz σ s value slice a (.ref x.a) vi:=
 tr_q e (λ k e1 e=>bd_q e λ l q1 e=>hi.qInt e1 λ t=>item_lst hs I hx q1 e)
 λ e=>bd_q e λ p e1 e=>gd_q e λ q1 e=>gd_q e λ q2 e=>gd_q e λ q3 e=>mp_q e λ q hq=>hi.qOff e1 λ {y} t hx'=>by
  cases Option.some.inj (hx.symm.trans (Nat.eq_of_beq_eq_true q1▸hx'))
  rw [Nat.eq_of_beq_eq_true q2,Nat.eq_of_beq_eq_true q3]
  exact item_lstf hs I X hx hq
theorem sd_item {o i:AV}(hsl:zjn slice=true) (FA:zqr K w.params O) (X:K.In c.h₀) (I:Inv U K w.params ti fr c σ ad own tb fz m s) (ho:VR K w.params ad fz o vo) (hi:VR K w.params ad fz i vi) :
  Sd (model prog w) U K w.params ti fr RX c ad fz (VR K w.params) (subscriptTail value slice vo vi) (lft (itemA O σ o i) λ v=>ok v σ) s:=
 have hs:=sub_ok slice hsl
 Sd.lft λ a e=>(show zj2 prog w U K ti fr RX c ad fz σ s value slice a vo vi from
 tr_q e (λ l e1 e=>bd_q e λ k e2 e=>ho.qTup e1 λ h1 h2=>hi.qInt e2 λ t=>item_tup hs I X h1 h2 e)
 λ e=>tr_q e (λ h e1 e=>ho.qHnd e1 λ hx=>item_hnd hs I X hx hi e)
 λ e=>tr_q e (λ d e1 e=>bd_q e λ x e2 e=>ho.qGref e1 (hi.qStr e2 λ t=>item_dict hs I FA X e))
 λ e=>tr_q e (λ h e1 e=>bd_q e λ p e2 e=>gd_q e λ q e=>mp_q e λ t h1=>ho.qRtk e1 λ {x} hx=>hi.qOff e2 λ {y} u hx'=>by
  cases Option.some.inj (hx.symm.trans (Nat.eq_of_beq_eq_true q▸hx'))
  exact item_tok hs I hx h1)
 λ e=>bd_q e λ x e1 e=>bd_q e λ k e2 e=>ho.qStr e1 λ t=>hi.qInt e2 λ u=>item_str hs I e)
end
end
end
section
section
variable {prog:Program}{w:World}{K:Frag}{ti:List TabI}{fr:Led}{U:SubP}{c:Cx}{RX:Cx→Led→Int→Value→Shared→Prop}{O:Out}
 {σ:St}{ad:List Ad}{own tb fz:Led}{m:Str→Option Value}{s:Shared}{p:Program}{loose:List Str}{mg mb:Str→Option Value}
noncomputable abbrev zz3 (w:World) (K:Frag) (ti:List TabI) (fr:Led) (U:SubP) (c:Cx) (F:St→List Ad→Led→Shared→Prop):Prop:=
 ∀ σ ad own tb fz m s,Inv U K w.params ti fr c σ ad own tb fz m s→F σ ad fz s
noncomputable def SE (prog:Program) (w:World) (K:Frag) (ti:List TabI) (fr:Led) (U:SubP) (RX:Cx→Led→Int→Value→Shared→Prop) (R:Rec) (c:Cx):Prop:=
 ∀ e,zz3 w K ti fr U c λ σ ad fz s=>Sd (model prog w) U K w.params ti fr RX c ad fz (VR K w.params) (eval e c.env) (R.E c.sc e σ) s
noncomputable def ST (prog:Program) (w:World) (K:Frag) (ti:List TabI) (fr:Led) (U:SubP) (RX:Cx→Led→Int→Value→Shared→Prop) (R:Rec) (c:Cx):Prop:=
 ∀ e,zz3 w K ti fr U c λ σ ad fz s=>Sd (model prog w) U K w.params ti fr RX c ad fz EqB (isTrue e c.env (eval e c.env)) (R.T c.sc e σ) s
theorem zqe {e:PySem.Expr}{r:List PySem.Expr}{env:Env}(h:noStar e=true):starEach (e::r) env=(false,eval e env)::starEach r env:=
 PySem.Expr.casesOn (motive_1:=λ e=>noStar e=true→starEach (e::r) env=(false,eval e env)::starEach r env) e (λ _ _ _ _=>rfl) (λ _ _ _ _=>rfl) (λ _ _ _ _ _=>rfl) (λ _ _ _ _=>rfl) (λ _ _ _ _ _=>rfl) (λ _ _ _ _ _=>rfl) (λ _ _ _ _=>rfl) (λ _ _ _ _=>rfl) (λ _ _ _ _ _=>rfl) (λ _ _ _ _ _=>rfl) (λ _ _ _ _ _ _=>rfl) (λ _ _ _ _ _=>rfl) (λ _ _ _=>rfl) (λ _ _ _=>rfl) (λ _ _ _=>rfl) (λ _ _ _ _ _=>rfl) (λ _ _ _ _ _=>rfl) (λ _ _ _ _ _=>rfl) (λ _ _ _=>rfl) (λ _ _ _ _=>rfl) (λ _ _ _ _=>rfl) (λ _ _ _ _=>rfl) (λ _ _ h=>Bool.noConfusion h) (λ _ _ _=>rfl) (λ _ _ _=>rfl) (λ _ _ _ _=>rfl) (λ _ _ _ _ _=>rfl) h
theorem zji (hRX:RXm RX) {R:Rec}(hE:SE prog w K ti fr U RX R c) (pos:Pos) (es:List PySem.Expr):zz3 w K ti fr U c λ σ ad fz s=>
  Sd (model prog w) U K w.params ti fr RX c ad fz (VRs K w.params) (spliced (backTo pos (starEach es c.env))) (evEs R c.sc es σ) s:=by
 induction es with
 | nil=>exact λ σ ad own tb fz m s I=>wpAny_pure (.mk I .nil)
 | cons e r ih=>
  intro σ ad own tb fz m s I
  refine Sd.gd λ h=>?_
  rw [zqe h]
  show Sd _ _ _ _ _ _ _ _ _ _ _ (do
   let v ← eval e c.env
   let here ← pure [v]
   return here++(← holding here (spliced (backTo pos (starEach r c.env))))) _ _
  refine Sd.bnd hRX (hE e _ _ _ _ _ _ _ I) λ a σ v s' ad' own' tb' fz' m' _ _ I' ha=>Sd.wp (λ Q E h=>wpAny_bind (wpAny_pure h)) ?_
  exact Sd.bnd hRX (Sd.hold (ih _ _ _ _ _ _ _ I')) λ b σ v₂ s' ad₂ own₂ tb₂ fz₂ m₂ hp hf I₂ hb=>Sd.ok I₂ (.cons (ha.mono hp hf) hb)
theorem sd_bool (hRX:RXm RX) {R:Rec}(hE:SE prog w K ti fr U RX R c) (pos:Pos) (op:BoolOp) (es:List PySem.Expr):zz3 w K ti fr U c λ σ ad fz s=>
  Sd (model prog w) U K w.params ti fr RX c ad fz (VR K w.params) (boolOp pos op (evalEach es c.env)) (evBool R c.sc op es σ) s:=by
 induction es with
 | nil=>exact λ σ ad own tb fz m s I=>trivial
 | cons x r ih=>
  intro σ ad own tb fz m s I
  cases r with
  | nil=>exact hE x _ _ _ _ _ _ _ I
  | cons y r=>
   show Sd _ _ _ _ _ _ _ _ _ _ _ (do
    let v ← eval x c.env
    standAt pos
    let t ← holding [v] (truthy v)
    match op,t with
    | .And,false | .Or,true=>pure v
    | _,_=>boolOp pos op (evalEach (y::r) c.env)) (bnd (R.E c.sc x σ) λ v σ=>lft (truthA σ v) λ t=>cd (stopB op t) (ok v σ) (evBool R c.sc op (y::r) σ)) _
   refine Sd.bnd hRX (hE x _ _ _ _ _ _ _ I) λ a σ v s' ad' own' tb' fz' m' _ _ I' ha=>Sd.stand (Sd.lft λ t e=>?_)
   refine Sd.seq hRX (Sd.hold (zkg I' ha e)) λ t' s' ad₂ own₂ tb₂ fz₂ m₂ hp hf I₂ ht=>?_
   have hb:=ih _ _ _ _ _ _ _ I₂
   have hk:=Sd.ok (M:=model prog w) (U:=U) (RX:=RX) I₂ (ha.mono hp hf)
   cases ht
   cases op<;>cases t<;>first | exact hb | exact hk
theorem sd_test (hRX:RXm RX) {R:Rec}(hT:ST prog w K ti fr U RX R c) (op:BoolOp) (es:List PySem.Expr):zz3 w K ti fr U c λ σ ad fz s=>
  Sd (model prog w) U K w.params ti fr RX c ad fz EqB (allTrue op es c.env) (evTest R c.sc op es σ) s:=by
 induction es with
 | nil=>intro σ ad own tb fz m s I;cases op<;>exact Sd.ok I rfl
 | cons x r ih=>
  intro σ ad own tb fz m s I
  show Sd _ _ _ _ _ _ _ _ _ _ _ (do
   match op,← isTrue x c.env (eval x c.env) with
   | .And,false=>pure false
   | .Or,true=>pure true
   | _,_=>allTrue op r c.env) (bnd (R.T c.sc x σ) λ b σ=>cd (stopB op b) (ok b σ) (evTest R c.sc op r σ)) _
  refine Sd.bnd hRX (hT x _ _ _ _ _ _ _ I) λ b σ b' s' ad₂ own₂ tb₂ fz₂ m₂ hp hf I₂ hb=>?_
  have h:=ih _ _ _ _ _ _ _ I₂
  cases hb
  cases op<;>cases b<;>first | exact h | exact Sd.ok I₂ rfl
theorem zxp {op:CmpOp}{r:PySem.Expr}(h:zkz r=true):behindInMarks op r=false:=
 PySem.Expr.casesOn (motive_1:=λ e=>zkz e=true→behindInMarks op e=false) r (λ _ _ _ _=>Eq.refl false) (λ _ _ _ _=>Eq.refl false) (λ _ _ _ _ _=>Eq.refl false) (λ _ _ _ _=>Eq.refl false) (λ _ _ _ _ _=>Eq.refl false) (λ _ _ _ _ _=>Eq.refl false) (λ _ _ _ _=>Eq.refl false) (λ _ _ _ h=>Bool.noConfusion h) (λ _ _ _ _ _=>Eq.refl false) (λ _ _ _ _ _=>Eq.refl false) (λ _ _ _ _ _ _=>Eq.refl false) (λ _ _ _ _ _=>Eq.refl false) (λ _ _ _=>Eq.refl false) (λ _ _ _=>Eq.refl false) (λ _ _ _=>Eq.refl false) (λ _ _ _ _ _=>Eq.refl false) (λ _ _ _ _ _=>Eq.refl false) (λ _ _ _ _ _=>Eq.refl false) (λ _ _ _=>Eq.refl false) (λ _ _ _ _=>Eq.refl false) (λ _ _ _ _=>Eq.refl false) (λ _ _ _ _=>Eq.refl false) (λ _ _ _=>Eq.refl false) (λ _ _ _=>Eq.refl false) (λ _ _ _=>Eq.refl false) (λ _ _ _ _=>Eq.refl false) (λ _ _ _ _ _=>Eq.refl false) h
theorem sd_cmpE (hRX:RXm RX) {R:Rec}{k:Nat}{l r:PySem.Expr}{op:CmpOp}{pos:Pos}(FA:zqr K w.params O) (Y:Ok p loose mg mb K c k) (hE:SE prog w K ti fr U RX R c) (hn:zkz r=true) (I:Inv U K w.params ti fr c σ ad own tb fz m s) :
  Sd (model prog w) U K w.params ti fr RX c ad fz BoolV (do let a ← eval l c.env;let b ← holding [a] (markedBehindIn op r (eval r c.env));standAt pos;operate [a,b] (compareOp op a b)) (zjv O R c.sc l r op σ) s:=by
 rw [markedBehindIn_of_false (zxp hn)]
 refine Sd.bnd hRX (hE l _ _ _ _ _ _ _ I) λ a σ va s₁ ad₁ own₁ tb₁ fz₁ m₁ _ _ I₁ ha=>?_
 refine Sd.bnd hRX (Sd.hold (hE r _ _ _ _ _ _ _ I₁)) λ b σ vb s₂ ad₂ own₂ tb₂ fz₂ m₂ hp hf I₂ hb=>Sd.stand (Sd.lft λ t e=>Sd.oper ?_)
 exact sd_cmp FA Y.X Y.line I₂ (ha.mono hp hf) hb e
end
end
section
section
variable {prog:Program}{w:World}{K:Frag}{ti:List TabI}{fr:Led}{U:SubP}{c:Cx}{RX:Cx→Led→Int→Value→Shared→Prop}{O:Out}
 {σ:St}{ad:List Ad}{own tb fz:Led}{m:Str→Option Value}{s:Shared}{p:Program}{loose:List Str}{mg mb:Str→Option Value}
theorem valueAt_in {x:Str}(kvs:List (Str × Value)):(valueAt kvs x).isSome=zxc x (kvs.map (·.1)):=by
 induction kvs with
 | nil=>rfl
 | cons p r ih=>
  unfold valueAt at ih ⊢
  rw [List.find?_cons]
  show _=cd (sB p.1 x) true (zxc x (r.map (·.1)))
  by_cases h:p.1=x
  ·rw [zqo.mpr h];simp [h,cd]
  ·rw [zz5.mpr h];simp only [h,decide_false];exact ih
theorem fd_new {o:Obj}{kvs:List (Str × Value)}(h:o.IsDictOf (PySem.strKind prog w) kvs):∃ es n,o=dictOf es n∧KeysLit w.params es∧∀ x,(findBy Value.isStrOf es.toArray x).isSome=zxc x (kvs.map (·.1)):=by
 obtain ⟨es,ep,⟨c1,c2,c3⟩,hd,hk,hp,_⟩:=h
 refine ⟨es.toList,ep,?_,?_,λ x=>?_⟩
 ·obtain ⟨a,b,d,e⟩:=o
  simp only at c1 c2 c3 hd
  subst c1 c2 c3 hd
  simp [dictOf]
 ·have:∀ l:List DictEntry,(∀ e∈l,e∈es)→KeysLit w.params l:=by
   intro l
   induction l with
   | nil=>intro _;trivial
   | cons e r ih=>
    intro h
    obtain ⟨k,h1,h2⟩:=hk e (h e (List.mem_cons_self ..))
    obtain ⟨t,h3⟩:=Value.isStrOf_shape h1
    exact ⟨⟨k,t,h3,h2⟩,ih λ e he=>h e (List.mem_cons_of_mem _ he)⟩
  exact this _ λ e he=>by simpa using he
 ·have:=hp.find x
  rw [← valueAt_in,← this]
  obtain ⟨l⟩:=es
  simp [findBy]
  rfl
theorem oConst_e {e:PySem.Expr}{x:Const}:zjz e=some x→∃ k p,e=.Constant x k p:=
 PySem.Expr.casesOn (motive_1:=λ e=>zjz e=some x→∃ k p,e=.Constant x k p) e (λ _ _ _=>nn) (λ _ _ _=>nn) (λ _ _ _ _=>nn) (λ _ _ _=>nn) (λ _ _ _ _=>nn) (λ _ _ _ _=>nn) (λ _ _ _=>nn) (λ _ _ _=>nn) (λ _ _ _ _=>nn) (λ _ _ _ _=>nn) (λ _ _ _ _ _=>nn) (λ _ _ _ _=>nn) (λ _ _=>nn) (λ _ _=>nn) (λ _ _=>nn) (λ _ _ _ _=>nn) (λ _ _ _ _=>nn) (λ _ _ _ _=>nn) (λ _ _=>nn) (λ c k p h=>⟨k,p,congrArg (λ c=>PySem.Expr.Constant c k p) (Option.some.inj h)⟩) (λ _ _ _=>nn) (λ _ _ _=>nn) (λ _ _=>nn) (λ _ _=>nn) (λ _ _=>nn) (λ _ _ _=>nn) (λ _ _ _ _=>nn)
theorem cStr_e {c:Const}{x:Str}(h:Const.str? c=some x):c=.str x:=Const.rec (motive:=λ c=>Const.str? c=some x→c=.str x) nn (λ _=>nn) (λ _=>nn) (λ _=>nn) (λ _ _=>nn) (λ _ h=>congrArg _ (Option.some.inj h)) (λ _=>nn) nn c h
theorem cBool_e {e:PySem.Expr}(h:cBool e=true):∃ b k p,e=.Constant (.bool b) k p:=by
 unfold cBool at h
 cases q:zjz e with
 | none=>rw [q] at h;cases h
 | some c=>
  obtain ⟨k,p,rfl⟩:=oConst_e q
  rw [q] at h
  exact Const.rec (motive:=λ c=>Const.isBool c=true→∃ b k' p',PySem.Expr.Constant c k p=.Constant (.bool b) k' p') (λ h=>Bool.noConfusion h) (λ b _=>⟨b,k,p,rfl⟩) (λ _ h=>Bool.noConfusion h) (λ _ h=>Bool.noConfusion h) (λ _ _ h=>Bool.noConfusion h) (λ _ h=>Bool.noConfusion h) (λ _ h=>Bool.noConfusion h) (λ h=>Bool.noConfusion h) c h
theorem sd_dict {k:Nat}(Y:Ok p loose mg mb K c k) (ks:List (Option PySem.Expr)) (vs:List PySem.Expr) (pos:Pos) (I:Inv U K w.params ti fr c σ ad own tb fz m s) :
  Sd (model prog w) U K w.params ti fr RX c ad fz (VR K w.params) (eval (.Dict ks vs pos) c.env) (lft (dictA ks vs) λ l=>ok (.fdict l) σ) s:=by
 refine Sd.lft λ l e=>?_
 cases ks with
 | nil=>cases vs with
  | cons=>exact nn e
  | nil=>
   refine sm_q e (newDict_K (prog:=prog) (w:=w) I.F I.N Y.T.nolimit λ d h' o F' N' l1 hs hd _ _ _=>?_)
   obtain ⟨es,n,rfl,h2,h3⟩:=fd_new hd
   exact .new (λ _ h=>.tail _ h) (I.newOf F' N' l1 s.toks) (.fdict ⟨es,n,.head _,h2,hs,h3⟩)
 | cons k₀ kr=>
  refine bd_q e λ k₁ h1 e=>bd_q e λ v₁ h2 e=>gd_q e λ hb e=>mp_q e λ x hx=>?_
  refine zj4 h1 (zj4 h2 ?_)
  obtain ⟨b,k2,p2,rfl⟩:=cBool_e hb
  refine bd_q hx λ e1 he hx1=>bd_q hx1 λ c₁ hc hx2=>?_
  cases he
  cases cStr_e hx2
  obtain ⟨kk,p1,rfl⟩:=oConst_e hc
  refine kdn_str (prog:=prog) (w:=w) rfl I.F I.N Y.T.nolimit rfl rfl (by simp) (by simp) λ d h' o F' N' l1 hs hd=>?_
  refine pairTrees_cons_walk (wpAny_Constant_str (wpAny_Constant_bool (pairTrees_nil_walk ?_)))
  refine kdn_made_str F' N' (.head λ q hq=>Nat.ne_of_lt (l1 q hq)) hd rfl (by simp [strPairs]) λ h2 o' F₂ N₂ hd₂=>?_
  obtain ⟨es,n,rfl,h3,h4⟩:=fd_new hd₂
  exact .new (λ _ h=>.tail _ h) (I.newOf F₂ N₂ l1 (s.toks + 1 + 1)) (.fdict ⟨es,n,.head _,h3,hs,h4⟩)
theorem zz4 {R:Rec}{sc:Scope}{b:Bool}{v:EV}:stepV O R sc (cd b v .no) σ=gd b (stepV O R sc v σ):=by cases b<;>rfl
theorem list_new {l:List AV}{vs:List Value}(I:Inv U K w.params ti fr c σ ad own tb fz m s) (h:VRs K w.params ad fz l vs) (hsz:vs.length≤100000):Sd (model prog w) U K w.params ti fr RX c ad fz (VR K w.params) (newList vs) (ok (.hnd σ.ho.length) { σ with ho:=σ.ho++[.lst l] }) s:=by
 refine newList_N I.F I.N (λ h' F' N'=>?_) (by rw [sizeLine_eq];omega)
 have hp:Pre ad (ad++[(Ad.of s.heap.objs.size 0)]):=⟨_,rfl⟩
 refine .pk (ad++[(Ad.of s.heap.objs.size 0)]) (own++[(s.heap.objs.size,listOf vs.toArray 0)]) tb fz m hp (λ _ h=>h)
  (I.snoc (x:=(Ad.of s.heap.objs.size 0)) (e:=[(s.heap.objs.size,listOf vs.toArray 0)]) F' N' (λ p hp q hq=>?_) (by simp) (.lst (h.mono hp λ _ h=>h)) s.toks) ?_
 ·rw [List.mem_singleton.mp hq];exact Nat.ne_of_lt (I.lt p hp)
 ·exact VR.hnd (x:=(Ad.of s.heap.objs.size 0)) (by rw [← I.ow.length];simp)
theorem sd_stepE (hRX:RXm RX) {R:Rec}{k:Nat}(hM:MulT prog w) (FA:zqr K w.params O) (Y:Ok p loose mg mb K c k) (hE:SE prog w K ti fr U RX R c) (hT:ST prog w K ti fr U RX R c)
  (hCall:∀ f as ks ps,zz3 w K ti fr U c λ σ ad fz s=>Sd (model prog w) U K w.params ti fr RX c ad fz (VR K w.params) (eval (.Call f as ks ps) c.env) (zke O R c.sc (.Call f as ks ps) σ) s)
  (hLam:∀ as b sc ps,zz3 w K ti fr U c λ σ ad fz s=>Sd (model prog w) U K w.params ti fr RX c ad fz (VR K w.params) (eval (.Lambda as b sc ps) c.env) (zke O R c.sc (.Lambda as b sc ps) σ) s)
  (e:PySem.Expr) (I:Inv U K w.params ti fr c σ ad own tb fz m s):Sd (model prog w) U K w.params ti fr RX c ad fz (VR K w.params) (eval e c.env) (zke O R c.sc e σ) s:=by
 have hu:c.A.units < cLine:=Y.line
 cases e with
 | Constant x kd pos=>exact Sd.lft λ a e=>sd_const I e
 | Name x pos=>exact sd_name FA Y I
 | BoolOp op vs pos=>exact sd_bool hRX hE pos op vs _ _ _ _ _ _ _ I
 | BinOp l op r pos=>
  rw [eval_BinOp]
  show Sd _ _ _ _ _ _ _ _ _ _ _ _ (armBin R c.sc l r op σ) _
  refine Sd.bnd hRX (hE l _ _ _ _ _ _ _ I) λ a σ va s₁ ad₁ own₁ tb₁ fz₁ m₁ _ _ I₁ ha=>?_
  refine Sd.bnd hRX (Sd.hold (hE r _ _ _ _ _ _ _ I₁)) λ b σ vb s₂ ad₂ own₂ tb₂ fz₂ m₂ hp hf I₂ hb=>Sd.stand (Sd.lft λ t e=>Sd.oper ?_)
  exact sd_bin hM Y.X I₂ (ha.mono hp hf) hb e
 | UnaryOp op x pos=>
  cases op<;>first | trivial | skip
  rw [eval_UnaryOp]
  show Sd _ _ _ _ _ _ _ _ _ _ _ _ (armNot R c.sc x σ) _
  refine Sd.bnd hRX (hE x _ _ _ _ _ _ _ I) λ a σ va s₁ ad₁ own₁ tb₁ fz₁ m₁ _ _ I₁ ha=>Sd.stand (Sd.hold (Sd.lft λ t e=>?_))
  exact not_of (wpAny_mono (zkg (RX:=RX) I₁ ha e) (λ b s₂ q=>q.imp λ _ _ h=>h▸.bool _) λ _ _ q=>q)
 | IfExp t a b pos=>
  rw [eval_IfExp]
  show Sd _ _ _ _ _ _ _ _ _ _ _ _ (armIf R c.sc t a b σ) _
  refine Sd.bnd hRX (hT t _ _ _ _ _ _ _ I) λ a' σ va s₁ ad₁ own₁ tb₁ fz₁ m₁ _ _ I₁ ha=>?_
  cases ha
  cases a'
  ·exact hE b _ _ _ _ _ _ _ I₁
  ·exact hE a _ _ _ _ _ _ _ I₁
 | Dict ks vs pos=>exact sd_dict Y ks vs pos I
 | Tuple es kd pos=>
  show Sd _ _ _ _ _ _ _ _ _ _ _ (do standAt pos;newTuple (← spliced (backTo pos (starEach es c.env)))) (armTup R c.sc es σ) _
  exact Sd.stand (Sd.bnd hRX (zji hRX hE pos es _ _ _ _ _ _ _ I) λ a σ va s₁ ad₁ own₁ tb₁ fz₁ m₁ _ _ I₁ ha=>Sd.gd λ q=>tup_new I₁ ha (Nat.le_trans ha.len (Nat.le_of_ble_eq_true q)))
 | List es pos=>
  show Sd _ _ _ _ _ _ _ _ _ _ _ (do standAt pos;newList (← spliced (backTo pos (starEach es c.env)))) (armLst R c.sc es σ) _
  exact Sd.stand (Sd.bnd hRX (zji hRX hE pos es _ _ _ _ _ _ _ I) λ a σ va s₁ ad₁ own₁ tb₁ fz₁ m₁ _ _ I₁ ha=>Sd.gd λ q=>list_new I₁ ha (Nat.le_trans ha.len (Nat.le_of_ble_eq_true q)))
 | Compare l ops rs pos=>
  cases ops with
  | nil=>trivial
  | cons op ops=>cases ops with
   | cons=>trivial
   | nil=>cases rs with
    | nil=>trivial
    | cons r rs=>cases rs with
     | cons=>trivial
     | nil=>
      rw [eval_Compare1]
      show Sd _ _ _ _ _ _ _ _ _ _ _ _ (stepV O R c.sc (cd (zkz r) (.cmp l r op) .no) σ) _
      rw [zz4]
      refine Sd.gd λ hn=>?_
      have h2:=Sd.bnd hRX (rel':=VR K w.params) (f:=λ v=>pure v) (k:=λ c σ=>ok (.bool c) σ) (sd_cmpE (RX:=RX) hRX (op:=op) (l:=l) (pos:=pos) FA Y hE hn I) λ b σ v s₂ ad₂ own₂ tb₂ fz₂ m₂ hp hf I₂ hb=>hb▸Sd.ok I₂ (.bool _)
      rw [bind_pure] at h2
      exact h2
 | Attribute v n pos=>
  rw [arm_eval_Attribute]
  show Sd _ _ _ _ _ _ _ _ _ _ _ _ (stepV O R c.sc (cd (zjg v) (.att v n) .no) σ) _
  rw [zz4]
  refine Sd.gd λ hb=>?_
  rw [zzh hb]
  refine Sd.bnd hRX (hE v _ _ _ _ _ _ _ I) λ a σ va s₁ ad₁ own₁ tb₁ fz₁ m₁ _ _ I₁ ha=>Sd.stand ?_
  exact Sd.wp (t':=getAttr va n true) (λ Q E h=>wpAny_bind (wpAny_holding (wpAny_mono h (λ r s q=>wpAny_bind (wpAny_letTemporaryGo (wpAny_pure q))) λ _ _ q=>q))) (sd_attr (RX:=RX) (prog:=prog) (n:=n) FA Y I₁ ha)
 | Subscript v i pos=>
  rw [eval_Subscript]
  show Sd _ _ _ _ _ _ _ _ _ _ _ _ (stepV O R c.sc (cd (zjn i) (.sub v i) .no) σ) _
  rw [zz4]
  refine Sd.gd λ hsl=>?_
  refine Sd.bnd hRX (hE v _ _ _ _ _ _ _ I) λ a σ va s₁ ad₁ own₁ tb₁ fz₁ m₁ _ _ I₁ ha=>?_
  exact Sd.bnd hRX (Sd.hold (hE i _ _ _ _ _ _ _ I₁)) λ b σ vb s₂ ad₂ own₂ tb₂ fz₂ m₂ hp hf I₂ hb=>Sd.stand (sd_item hsl FA Y.X I₂ (ha.mono hp hf) hb)
 | Call f as ks ps=>exact hCall f as ks ps _ _ _ _ _ _ _ I
 | Lambda as b sc ps=>exact hLam as b sc ps _ _ _ _ _ _ _ I
 | _=>trivial
end
end
section
theorem zzx {e:PySem.Expr}{x:Str × Pos}:zkm e=some x→e=.Name x.1 x.2:=PySem.Expr.casesOn (motive_1:=λ e=>zkm e=some x→e=.Name x.1 x.2) e (λ _ _ _=>nn) (λ _ _ _=>nn) (λ _ _ _ _=>nn) (λ _ _ _=>nn) (λ _ _ _ _=>nn) (λ _ _ _ _=>nn) (λ _ _ _=>nn) (λ _ _ _=>nn) (λ _ _ _ _=>nn) (λ _ _ _ _=>nn) (λ _ _ _ _ _=>nn) (λ _ _ _ _=>nn) (λ _ _=>nn) (λ _ _=>nn) (λ _ _=>nn) (λ _ _ _ _=>nn) (λ _ _ _ _=>nn) (λ _ _ _ _=>nn) (λ _ _=>nn) (λ _ _ _=>nn) (λ _ _ _=>nn) (λ _ _ _=>nn) (λ _ _=>nn) (λ a b h=>Option.some.inj h▸rfl) (λ _ _=>nn) (λ _ _ _=>nn) (λ _ _ _ _=>nn)
theorem oTup_e {e:PySem.Expr}{x:List PySem.Expr}:oTup e=some x→∃ k p,e=.Tuple x k p:=PySem.Expr.casesOn (motive_1:=λ e=>oTup e=some x→∃ k p,e=.Tuple x k p) e (λ _ _ _=>nn) (λ _ _ _=>nn) (λ _ _ _ _=>nn) (λ _ _ _=>nn) (λ _ _ _ _=>nn) (λ _ _ _ _=>nn) (λ _ _ _=>nn) (λ _ _ _=>nn) (λ _ _ _ _=>nn) (λ _ _ _ _=>nn) (λ _ _ _ _ _=>nn) (λ _ _ _ _=>nn) (λ _ _=>nn) (λ _ _=>nn) (λ _ _=>nn) (λ _ _ _ _=>nn) (λ _ _ _ _=>nn) (λ _ _ _ _=>nn) (λ _ _=>nn) (λ _ _ _=>nn) (λ _ _ _=>nn) (λ _ _ _=>nn) (λ _ _=>nn) (λ _ _=>nn) (λ _ _=>nn) (λ l k p h=>⟨k,p,congrArg (λ l=>PySem.Expr.Tuple l k p) (Option.some.inj h)⟩) (λ _ _ _ _=>nn)
theorem oCall_e {e:PySem.Expr}{x:PySem.Expr × List PySem.Expr × List Keyword × Pos}:oCall e=some x→e=.Call x.1 x.2.1 x.2.2.1 x.2.2.2:=PySem.Expr.casesOn (motive_1:=λ e=>oCall e=some x→e=.Call x.1 x.2.1 x.2.2.1 x.2.2.2) e (λ _ _ _=>nn) (λ _ _ _=>nn) (λ _ _ _ _=>nn) (λ _ _ _=>nn) (λ _ _ _ _=>nn) (λ _ _ _ _=>nn) (λ _ _ _=>nn) (λ _ _ _=>nn) (λ _ _ _ _=>nn) (λ _ _ _ _=>nn) (λ _ _ _ _ _=>nn) (λ _ _ _ _=>nn) (λ _ _=>nn) (λ _ _=>nn) (λ _ _=>nn) (λ _ _ _ _=>nn) (λ a b c d h=>Option.some.inj h▸rfl) (λ _ _ _ _=>nn) (λ _ _=>nn) (λ _ _ _=>nn) (λ _ _ _=>nn) (λ _ _ _=>nn) (λ _ _=>nn) (λ _ _=>nn) (λ _ _=>nn) (λ _ _ _=>nn) (λ _ _ _ _=>nn)
theorem putLo_look {x:Str}{v:AV}{l:List (Str × AV)}{y:Str}:zqm y (zza x v l)=if y=x then some v else zqm y l:=by
 induction l with
 | nil=>
  show cd (sB x y) (some v) none=_
  cases h:sB x y with
  | true=>rw [if_pos (zqo.mp h).symm];rfl
  | false=>rw [if_neg (Ne.symm (zz5.mp h))];rfl
 | cons p l ih=>
  show zqm y (cd (sB p.1 x) ((p.1,v)::l) (p::zza x v l))=if y=x then some v else cd (sB p.1 y) (some p.2) (zqm y l)
  cases h:sB p.1 x with
  | true=>
   show cd (sB p.1 y) (some v) (zqm y l)=_
   cases h2:sB p.1 y with
   | true=>rw [if_pos ((zqo.mp h2).symm.trans (zqo.mp h))];rfl
   | false=>rw [if_neg (λ q=>zz5.mp h2 ((zqo.mp h).trans q.symm))];rfl
  | false=>
   show cd (sB p.1 y) (some p.2) (zqm y (zza x v l))=_
   cases h2:sB p.1 y with
   | true=>rw [if_neg (λ q=>zz5.mp h ((zqo.mp h2).trans q))];rfl
   | false=>exact ih
theorem upd_of {d:Addr}{o o':Obj}{l2 l1:Led}:((l1++(d,o)::l2).map (·.1)).Nodup→Upd d o o' (l1++(d,o)::l2) (l1++(d,o')::l2):=by
 induction l1 with
 | nil=>exact λ h=>.head λ p hp q=>(List.nodup_cons.mp h).1 (List.mem_map.mpr ⟨p,hp,q⟩)
 | cons p l1 ih=>exact λ h=>.tail (λ q=>(List.nodup_cons.mp h).1 (List.mem_map.mpr ⟨(d,o),List.mem_append_right _ (.head _),q.symm⟩)) (ih (List.nodup_cons.mp h).2)
section
variable {prog:Program}{w:World}{K:Frag}{ti:List TabI}{fr:Led}{U:SubP}{c:Cx}{RX:Cx→Led→Int→Value→Shared→Prop}{O:Out}
 {σ:St}{ad:List Ad}{own tb fz:Led}{m:Str→Option Value}{s:Shared}{p:Program}{loose:List Str}{mg mb:Str→Option Value}
theorem Loc.put {P:Params}{loc:List (Str × AV)}{x:Str}{a:AV}{v:Value}(h:Loc K P c ad fz m loc) (hx:c.sc.names.lookup x=some .local) (hv:VR K P ad fz a v):Loc K P c ad fz (λ y=>if y=x then some v else m y) (zza x a loc):=λ y b e=>by
 have e:=putLo_look.symm.trans e
 by_cases q:y=x
 ·rw [if_pos q] at e
  exact ⟨λ _=>⟨v,if_pos q,.som e hv⟩,λ h=>by rw [q,hx] at h;rcases h with h | h<;>cases h⟩
 ·rw [if_neg q] at e
  exact ⟨λ h1=>((h y b e).1 h1).imp λ _=>And.imp_left (if_neg q).trans,(h y b e).2⟩
theorem FR.put {P:Params}{n:Str}{a:AV}{v:Value}{t:Tok}(hv:VR K P ad fz a v) {f es} (h:FR K P ad fz f es):FR K P ad fz (zza n a f) (putL n (PyData.keyHash P n) (.str n t) v es):=by
 induction h with
 | nil=>exact .cons hv .nil
 | @cons k a t v f es h b ih=>
  unfold putL
  simp only [zkb]
  show FR K P ad fz (cd (sB k n) _ _) _
  cases q:sB k n with
  | true=>exact .cons hv b
  | false=>exact .cons h ih
theorem FR.length {P:Params}{f es} (h:FR K P ad fz f es):es.length=f.length:=h.rec (motive:=λ f es _=>es.length=f.length) rfl λ _ _ e=>congrArg (· + 1) e
theorem putLo_len {x:Str}{v:AV}(l:List (Str × AV)):(zza x v l).length≤l.length + 1:=by
 induction l with
 | nil=>exact Nat.le_refl _
 | cons p l ih=>
  show (cd (sB p.1 x) ((p.1,v)::l) (p::zza x v l)).length≤_
  cases sB p.1 x
  ·exact Nat.succ_le_succ ih
  ·exact Nat.le_succ _
theorem sd_store {P:Params}{x:Str}{a:AV}{v:Value}(hk:c.sc.kind=.function) (hx:c.sc.names.lookup x=some .local) (I:Inv U K P ti fr c σ ad own tb fz m s) (hv:VR K P ad fz a v) :
  wpAny (model prog w) c.A (storeName c.env x v) (λ _ s'=>∃ m',Inv U K P ti fr c { σ with loc:=zza x a σ.loc } ad own tb fz m' s') (λ _ _=>False) s:=
 storeX_L I.F I.N (λ h' F' N'=>⟨_,⟨F',N',I.nd,I.ow,I.tb,I.lo.put hx hv,I.og⟩⟩) hk hx
noncomputable abbrev Any {α β:Type}(_:List Ad) (_:Led) (_:α) (_:β):Prop:=True
theorem zj9 {P:Params}{x:Str}{q:Pos}{a:AV}{v:Value}(hk:c.sc.kind=.function) (I:Inv U K P ti fr c σ ad own tb fz m s) (hv:VR K P ad fz a v) :
  Sd (model prog w) U K P ti fr RX c ad fz Any (assign (.Name x q) c.env v) (lft (asLoc c.sc x a σ) λ σ=>ok () σ) s:=
 Sd.lft λ σ' e=>gd_q e λ q e=>sm_q (Q:=λ σ'=>Sd (model prog w) U K P ti fr RX c ad fz Any (do standAt _;bindName c.env _ v) (ok () σ') s) e (wpAny_bind (wpAny_standAt (wpAny_bindName (wpAny_mono (sd_store hk (zx5 q) I hv) (λ _ s' h=>h.elim λ m' I'=>.mk I' trivial) λ _ _ h=>h))))
theorem sd_asName {P:Params}{t:PySem.Expr}{a:AV}{v:Value}(hk:c.sc.kind=.function) (I:Inv U K P ti fr c σ ad own tb fz m s) (hv:VR K P ad fz a v) :
  Sd (model prog w) U K P ti fr RX c ad fz Any (assign t c.env v) (lft (zks c.sc t a σ) λ σ=>ok () σ) s:=by
 cases h:zkm t with
 | none=>unfold zks;rw [h];trivial
 | some p=>
  have e:zks c.sc t a σ=asLoc c.sc p.1 a σ:=by unfold zks;rw [h];rfl
  rw [e,zzx h]
  exact zj9 hk I hv
theorem asNames_each {sc:Scope}{env:Env}{ts:List PySem.Expr}:∀ {as:List AV}{σ σ':St},asNames sc ts as σ=some σ'→as.length=ts.length∧(assignEach ts env).length=ts.length∧(assignEach ts env).findIdx? (·.1)=none:=by
 induction ts with
 | nil=>
  intro as σ σ' e
  cases as with
  | nil=>exact ⟨rfl,rfl,rfl⟩
  | cons=>exact nn e
 | cons t ts ih=>
  intro as σ σ' e
  cases as with
  | nil=>exact nn e
  | cons a as=>
   refine bd_q e λ σ₁ h1 h2=>bd_q h1 λ p hp _=>?_
   obtain ⟨i1,i2,i3⟩:=ih h2
   rw [zzx hp]
   refine ⟨congrArg (· + 1) i1,congrArg (· + 1) i2,?_⟩
   show List.findIdx? _ ((false,_)::assignEach ts env)=none
   rw [List.findIdx?_cons]
   simp [i3]
theorem sd_asNames (hRX:RXm RX) {P:Params}(hk:c.sc.kind=.function) (ts:List PySem.Expr):∀ {as:List AV}{vs:List Value}{σ:St}{ad:List Ad}{own tb fz:Led}{m:Str→Option Value}{s:Shared}{σ':St},
  Inv U K P ti fr c σ ad own tb fz m s→VRs K P ad fz as vs→zqc as=true→asNames c.sc ts as σ=some σ'→Sd (model prog w) U K P ti fr RX c ad fz Any (assignInOrder ((assignEach ts c.env).map (·.2)) vs) (ok () σ') s:=by
 induction ts with
 | nil=>
  intro as vs σ ad own tb fz m s σ' I hv _ e
  cases as with
  | nil=>exact hv.qNil (sm_q e (wpAny_pure (.mk I trivial)))
  | cons=>exact nn e
 | cons t ts ih=>
  intro as vs σ ad own tb fz m s σ' I hv hp e
  cases as with
  | nil=>exact nn e
  | cons a as=>
   have hc:conS a=false:=by
    cases q:conS a with
    | false=>rfl
    | true=>have hp:cd (conS a) false (zqc as)=true:=hp;rw [q] at hp;cases hp
   rw [zxi hc] at hp
   refine bd_q e λ σ₁ h1 h2=>hv.qCons hc λ {v vs} h3 h4=>?_
   have g:=sd_asName (RX:=RX) (prog:=prog) (w:=w) hk I h3 (t:=t)
   rw [h1] at g
   refine bd_q h1 λ q hq _=>?_
   rw [zzx hq] at g ⊢
   show Sd _ _ _ _ _ _ _ _ _ _ _ (do holding _ (assign (.Name q.1 q.2) c.env _);assignInOrder ((assignEach ts c.env).map (·.2)) _) _ _
   exact Sd.seq hRX (Sd.hold g) λ _ s' ad' own' tb' fz' m' hp' hf I' _=>ih I' (h4.mono hp' hf) hp h2
end
end
section
section
variable {prog:Program}{w:World}{K:Frag}{ti:List TabI}{fr:Led}{U:SubP}{c:Cx}{RX:Cx→Led→Int→Value→Shared→Prop}{O:Out}
 {σ:St}{ad:List Ad}{own tb fz:Led}{m:Str→Option Value}{s:Shared}{p:Program}{loose:List Str}{mg mb:Str→Option Value}
theorem set_inst {k:Nat}{n:Str}{cl:Nat}{f:List (Str × AV)}{a:AV}{v:Value}{x:Ad}{ho':List HO}{pre post:Led}{es:List DictEntry}{nn:Nat}(FA:zqr K w.params O) (Y:Ok p loose mg mb K c k) (I:Inv U K w.params ti fr c σ ad own tb fz m s) (hv:VR K w.params ad fz a v) (hf:FR K w.params ad fz f es)
  (h3:own=pre++([(x.a,instObj cl x.d),(x.d,dictOf es nn)]++post)) (h4:∀ e',OW U K w.params ad fz x (.inst cl (zza n a f)) e'→OWs U K w.params ad fz ad ho' (pre++(e'++post))) (ha:zzi cl n=true) (hl:f.length≤100) :
  Sd (model prog w) U K w.params ti fr RX c ad fz Any (setAttr (.ref x.a) n v) (ok () { σ with ho:=ho' }) s:=by
 obtain ⟨f1,f2,f3⟩:=FA.set cl n ha
 obtain ⟨g1,g2,g3⟩:=FA.attr cl n ha
 have hsome:(getL n es).isSome=true:=by
  cases q:zqm n f with
  | none=>rw [hf.getN q];rfl
  | some b=>exact hf.getS q λ v' e _=>by rw [e];rfl
 have e1:∀ o,pre++([(x.a,instObj cl x.d),(x.d,o)]++post)++(tb++(fr++fz))=(pre++[(x.a,instObj cl x.d)])++(x.d,o)::(post++(tb++(fr++fz))):=λ o=>by simp
 have nd:=I.nd
 have N:=I.N
 have J:=InstAt.of_news I.N (I.ownMem h3 (.head _)) (I.ownMem h3 (.tail _ (.head _)))
 rw [h3,e1] at nd N
 refine set_dict I.F Y.X N J rfl f1 f2 f3 g2 hsome rfl (upd_of nd) (by have:=(hf.put (n:=n) (t:=s.toks + 1) hv).length;have:=putLo_len (x:=n) (v:=a) f;omega) λ h' F' N'=>?_
 refine .mk (own:=pre++([(x.a,instObj cl x.d),(x.d,dictOf (putL n (PyData.keyHash w.params n) (.str n (s.toks + 1)) v es) (putN n es nn))]++post)) (m:=m) ⟨F',e1 _▸N',e1 _▸?_,h4 _ (.inst (hf.put hv)),I.tb,I.lo,I.og⟩ trivial
 simpa using nd
theorem sd_setattr {k:Nat}{i:Nat}{n:Str}{q:Nat × List (Str × AV)}{a:AV}{v:Value}{x:Ad}(FA:zqr K w.params O) (Y:Ok p loose mg mb K c k) (I:Inv U K w.params ti fr c σ ad own tb fz m s) (hx:ad[i]? = some x) (hv:VR K w.params ad fz a v)
  (hi:instAt σ i=some q) (ha:zzi q.1 n=true) (hl:q.2.length≤100):Sd (model prog w) U K w.params ti fr RX c ad fz Any (setAttr (.ref x.a) n v) (ok () { σ with ho:=σ.ho.set i (.inst q.1 (zza n a q.2)) }) s:=
 (I.at (instAt_e hi) hx).casesOn λ e' pre post h2 h3 h4=>IInst.casesOn (motive:=λ e' _=>own=pre++(e'++post)→_) (show IInst K w.params ad fz x q.1 q.2 e' from h2.inv) (λ hf h3=>set_inst FA Y I hv hf h3 (h4 _) ha hl) h3
theorem drop_flat {r:List Item}:∀ {k:Nat}{r':List Item},dropI r k=some r'→flat r'=(flat r).drop k∧k≤(flat r).length ∧
  (∀ z e p,zOK z e p r→zOK z e (p + k) r')∧∃ pre,r=pre++r':=by
 induction r with
 | nil=>
  intro k r' e
  cases k with
  | zero=>exact sm_q e ⟨rfl,Nat.zero_le _,λ _ _ _ h=>h,[],rfl⟩
  | succ k=>exact nn e
 | cons i r ih=>
  intro k r' e
  cases k with
  | zero=>exact sm_q e ⟨rfl,Nat.zero_le _,λ _ _ _ h=>h,[],rfl⟩
  | succ k=>cases i with
   | sub=>exact nn e
   | tk t=>
    obtain ⟨h1,h2,h3,pre,h4⟩:=ih (k:=k) e
    refine ⟨h1,Nat.succ_le_succ h2,λ z e p h=>?_,.tk t::pre,congrArg (Item.tk t::·) h4⟩
    have:=h3 z e (p + 1) h
    rwa [Nat.add_assoc,Nat.add_comm 1 k] at this
theorem set_rdr {k:Nat}{r:Rd}{k₁:Nat}{r':List Item}{x:Ad}{tv:Tok}{ho':List HO}{pre post:Led}{n2:Nat}{vn:Value}{t1 t2 t3 t4:Tok}(FA:zqr K w.params O) (Y:Ok p loose mg mb K c k) (I:Inv U K w.params ti fr c σ ad own tb fz m s)
  (h3:own=pre++([(x.d,dictOf [⟨PyData.keyHash w.params "tokens",.str "tokens" t1,.ref x.t⟩,⟨PyData.keyHash w.params "at",.str "at" t2,.int ((x.z r.e + r.k:Nat):Int) t3⟩,⟨PyData.keyHash w.params "named",.str "named" t4,vn⟩] n2)]++post)) (h4:∀ e',OW U K w.params ad fz x (.rdr r.e k₁ r' r.nm) e'→OWs U K w.params ad fz ad ho' (pre++(e'++post))) (a1:(x.a,instObj 637 x.d)∈fz)
  (ho:∀ t,OW U K w.params ad fz x (.rdr r.e k₁ r' r.nm) [(x.d,dictOf [⟨PyData.keyHash w.params "tokens",.str "tokens" t1,.ref x.t⟩,⟨PyData.keyHash w.params "at",.str "at" t2,.int ((x.z r.e + k₁:Nat):Int) t⟩,⟨PyData.keyHash w.params "named",.str "named" t4,vn⟩] n2)]) :
  Sd (model prog w) U K w.params ti fr RX c ad fz Any (setAttr (.ref x.a) "at" (.int ((x.z r.e + k₁:Nat):Int) tv)) (ok () { σ with ho:=ho' }) s:=by
 obtain ⟨f1,f2,f3⟩:=FA.set 637 "at" rfl
 obtain ⟨g1,g2,g3⟩:=FA.attr 637 "at" rfl
 have e1:∀ o,pre++([(x.d,o)]++post)++(tb++(fr++fz))=pre++(x.d,o)::(post++(tb++(fr++fz))):=λ o=>by simp
 have nd:=I.nd
 have N:=I.N
 have J:=InstAt.of_news I.N (I.inFz a1) (I.ownMem h3 (.head _))
 rw [h3,e1] at nd N
 refine set_dict I.F Y.X N J rfl f1 f2 f3 g2 rfl rfl (upd_of nd) (by show (List.length ([_,_,_]:List DictEntry))≤1000;simp) λ h' F' N'=>?_
 refine .mk (m:=m) ⟨F',?_,?_,h4 _ (ho tv),I.tb,I.lo,I.og⟩ trivial
 ·rw [e1]
  exact N'
 ·rw [e1]
  simpa using nd
theorem sd_setat {k:Nat}{i k₁:Nat}{r:Rd}{r':List Item}{x:Ad}{tv:Tok}(FA:zqr K w.params O) (Y:Ok p loose mg mb K c k) (I:Inv U K w.params ti fr c σ ad own tb fz m s) (hx:ad[i]? = some x)
  (hi:zjk σ i=some r) (hk:r.k≤k₁) (hd:dropI r.rest (k₁ - r.k)=some r') :
  Sd (model prog w) U K w.params ti fr RX c ad fz Any (setAttr (.ref x.a) "at" (.int ((x.z r.e + k₁:Nat):Int) tv)) (ok () { σ with ho:=σ.ho.set i (.rdr r.e k₁ r' r.nm) }) s:=
 (I.at (zki hi) hx).casesOn λ e' pre post h2 h3 h4=>IRdr.casesOn (motive:=λ e' _=>own=pre++(e'++post)→_) (show IRdr U K w.params ad fz x r.e r.k r.rest r.nm e' from h2.inv) (λ {n2 tvs n toks vn t1 t2 t3 t4} a1 a2 a3 a4 a5 a6 a7 a8 a9 a10 h3=>set_rdr FA Y I h3 (h4 _) a1 λ t=>by
  obtain ⟨d1,d2,d3,pr,d4⟩:=drop_flat hd
  have hlen:k₁ - r.k≤toks.length - (x.z r.e + r.k):=by rw [a4,List.length_drop] at d2;exact d2
  have hk2:x.z r.e + r.k + (k₁ - r.k)=x.z r.e + k₁:=by rw [Nat.add_assoc,Nat.add_sub_cancel' hk]
  exact .rdr (n2:=n2) a1 a2 a3 (by rw [d1,a4,List.drop_drop,hk2]) a5 a6 (by omega) (hk2▸d3 _ _ _ a8) (λ pre' f hd' tl o' post' q=>a9 (pr++pre') f hd' tl o' post' (by rw [d4,q,List.append_assoc])) a10) h3
theorem sd_armSet {k:Nat}{n:Str}{a b:AV}{v vb:Value}(FA:zqr K w.params O) (Y:Ok p loose mg mb K c k) (I:Inv U K w.params ti fr c σ ad own tb fz m s) (hb:VR K w.params ad fz b vb) (hv:VR K w.params ad fz a v) :
  Sd (model prog w) U K w.params ti fr RX c ad fz Any (setAttr vb n v) (armSet n a b σ) s:=
 Sd.lft λ i ei=>hb.qHnd ei λ {x} hx=>Sd.tr (λ q hq=>Sd.gd λ q3=>Sd.gd λ q4=>sd_setattr FA Y I hx hv hq q3 (Nat.le_of_ble_eq_true q4)) λ _=>Sd.lft λ r hr=>Sd.gd λ qn=>Sd.lft λ q eq=>Sd.gd λ q3=>Sd.gd λ q4=>Sd.gd λ q5=>Sd.lft λ r' hd=>hv.qOff eq λ {y} t hy=>by
  cases Option.some.inj (hx.symm.trans (Nat.eq_of_beq_eq_true q3▸hy))
  rw [Nat.eq_of_beq_eq_true q4]
  exact sB_q qn (sd_setat FA Y I hx hr (Nat.le_of_ble_eq_true q5) hd)
theorem sd_as (hRX:RXm RX) {R:Rec}{k:Nat}{a:AV}{v:Value}(t:PySem.Expr) (FA:zqr K w.params O) (Y:Ok p loose mg mb K c k) (hE:SE prog w K ti fr U RX R c) (I:Inv U K w.params ti fr c σ ad own tb fz m s) (hv:VR K w.params ad fz a v) :
  Sd (model prog w) U K w.params ti fr RX c ad fz Any (assign t c.env v) (evAs R c.sc t a σ) s:=by
 cases t with
 | Name x q=>exact zj9 Y.kf I hv
 | Attribute o n q=>
  refine Sd.lft λ q1 hq=>?_
  rw [zzx hq]
  show Sd _ _ _ _ _ _ _ _ _ _ _ (do
   let ov ← holding [v] (eval (.Name q1.1 q1.2) c.env)
   standAt q.atName
   holding [v,ov] (setAttr ov n v)
   release [v,ov] []) _ _
  refine Sd.bnd hRX (Sd.hold (hE _ _ _ _ _ _ _ _ I)) λ b σ vb s₂ ad₂ own₂ tb₂ fz₂ m₂ hp hf I₂ hb=>Sd.stand (Sd.wp (λ Q E h=>?_) (sd_armSet FA Y I₂ hb (hv.mono hp hf)))
  refine wpAny_bind (wpAny_holding (wpAny_mono h (λ _ _ h=>?_) λ _ _ h=>h))
  exact λ Γ p hΓ=>by rw [Sem.wp_release];exact h
 | Tuple ts kd q=>
  refine Sd.lft λ vs ev=>Sd.gd λ hp=>Sd.lft λ σ' e=>hv.qTup ev λ h1 h2=>?_
  obtain ⟨g1,g2,g3⟩:=asNames_each (env:=c.env) e
  refine unpackN_ I.F I.N (zql I Y.X h1) Y.hh (by rw [List.size_toArray,h2.plain hp,g1,g2]) g3 λ h' F' N'=>?_
  exact sd_asNames (RX:=RX) (prog:=prog) (w:=w) hRX Y.kf ts ⟨F',N',I.nd,I.ow,I.tb,I.lo,I.og⟩ h2 hp e
 | _=>trivial
theorem stepTV_cd {R:Rec}{sc:Scope}{e:PySem.Expr}{b:Bool}{v:TV}:stepTV O R sc e (cd b v .no) σ=gd b (stepTV O R sc e v σ):=by cases b<;>rfl
theorem sd_stepT (hRX:RXm RX) {R:Rec}{k:Nat}(FA:zqr K w.params O) (Y:Ok p loose mg mb K c k) (hE:SE prog w K ti fr U RX R c) (hT:ST prog w K ti fr U RX R c)
  (e:PySem.Expr) (I:Inv U K w.params ti fr c σ ad own tb fz m s):Sd (model prog w) U K w.params ti fr RX c ad fz EqB (isTrue e c.env (eval e c.env)) (stepT O R c.sc e σ) s:=by
 have plain:∀ e,isTrue e c.env (eval e c.env)=(do let v ← eval e c.env;standAt e.pos;holding [v] (truthy v)) →
   Sd (model prog w) U K w.params ti fr RX c ad fz EqB (isTrue e c.env (eval e c.env)) (bnd (R.E c.sc e σ) λ v σ=>lft (truthA σ v) λ t=>ok t σ) s:=λ e he=>by
  rw [he]
  exact Sd.bnd hRX (hE e _ _ _ _ _ _ _ I) λ a σ va s₁ ad₁ own₁ tb₁ fz₁ m₁ _ _ I₁ ha=>Sd.stand (Sd.hold (Sd.lft λ t e=>zkg I₁ ha e))
 cases e with
 | UnaryOp op x pos=>
  cases op<;>first | exact plain _ rfl | skip
  show Sd _ _ _ _ _ _ _ _ _ _ _ (do return !(← isTrue x c.env (eval x c.env))) (bnd (R.T c.sc x σ) λ b σ=>ok (!b) σ) _
  exact Sd.bnd hRX (hT x _ _ _ _ _ _ _ I) λ b σ b' s' ad₂ own₂ tb₂ fz₂ m₂ hp hf I₂ hb=>hb▸Sd.ok I₂ rfl
 | BoolOp op vs pos=>exact sd_test hRX hT op vs _ _ _ _ _ _ _ I
 | IfExp t a b pos=>
  show Sd _ _ _ _ _ _ _ _ _ _ _ (do if ← isTrue t c.env (eval t c.env) then isTrue a c.env (eval a c.env) else isTrue b c.env (eval b c.env)) (bnd (R.T c.sc t σ) λ x σ=>cd x (R.T c.sc a σ) (R.T c.sc b σ)) _
  refine Sd.bnd hRX (hT t _ _ _ _ _ _ _ I) λ x σ b' s' ad₂ own₂ tb₂ fz₂ m₂ hp hf I₂ hb=>?_
  cases hb
  cases x
  ·exact hT b _ _ _ _ _ _ _ I₂
  ·exact hT a _ _ _ _ _ _ _ I₂
 | Compare l ops rs pos=>
  cases ops with
  | nil=>trivial
  | cons op ops=>cases ops with
   | cons=>trivial
   | nil=>cases rs with
    | nil=>trivial
    | cons r rs=>cases rs with
     | cons=>trivial
     | nil=>
      rw [isTrue_Compare1]
      show Sd _ _ _ _ _ _ _ _ _ _ _ _ (stepTV O R c.sc _ (cd (zkz r) (.cmp l r op) .no) σ) _
      rw [stepTV_cd]
      refine Sd.gd λ hn=>?_
      have h2:=Sd.bnd hRX (rel':=EqB) (f:=λ v=>holding [v] (truthy v)) (k:=λ c σ=>ok c σ) (sd_cmpE (RX:=RX) hRX (op:=op) (l:=l) (pos:=pos) FA Y hE hn I) λ b σ v s₂ ad₂ own₂ tb₂ fz₂ m₂ hp hf I₂ hb=>hb▸Sd.hold (wpAny_truthy_bool (.mk I₂ rfl))
      have e:bnd (zjv O R c.sc l r op σ) (λ c σ=>ok c σ)=zjv O R c.sc l r op σ:=by
       cases zjv O R c.sc l r op σ with
       | none=>rfl
       | some x=>cases x<;>rfl
      rw [e] at h2
      refine h2.wp λ Q E h=>?_
      simp only [bind_assoc] at h
      exact h
 | _=>exact plain _ rfl
end
end
section
inductive FlR (K:Frag) (P:Params) (ad:List Ad) (fz:Led):Fl→Flow→Prop
 | next:FlR K P ad fz .next .next
 | brk:FlR K P ad fz .brk .brk
 | cont:FlR K P ad fz .cont .cont
 | ret {a v}:VR K P ad fz a v→FlR K P ad fz (.ret a) (.ret v)
inductive FNext:Flow→Prop | next:FNext .next
inductive FBrk:Flow→Prop | brk:FBrk .brk
inductive FCont:Flow→Prop | cont:FCont .cont
inductive FRet (K:Frag) (P:Params) (ad:List Ad) (fz:Led) (a:AV):Flow→Prop | ret {v}:VR K P ad fz a v→FRet K P ad fz a (.ret v)
noncomputable def FlRi (K:Frag) (P:Params) (ad:List Ad) (fz:Led):Fl→Flow→Prop
 | .next=>FNext
 | .brk=>FBrk
 | .cont=>FCont
 | .ret a=>FRet K P ad fz a
theorem FlR.inv {K:Frag}{P:Params}{ad:List Ad}{fz:Led}{f:Fl}{v:Flow}(h:FlR K P ad fz f v):FlRi K P ad fz f v:=FlR.rec (motive:=λ f v _=>FlRi K P ad fz f v) FNext.next FBrk.brk FCont.cont (λ a=>.ret a) h
section
variable {prog:Program}{w:World}{K:Frag}{ti:List TabI}{fr:Led}{U:SubP}{c:Cx}{RX:Cx→Led→Int→Value→Shared→Prop}{O:Out}
 {σ:St}{ad:List Ad}{own tb fz:Led}{m:Str→Option Value}{s:Shared}{p:Program}{loose:List Str}{mg mb:Str→Option Value}
noncomputable def SS (prog:Program) (w:World) (K:Frag) (ti:List TabI) (fr:Led) (U:SubP) (RX:Cx→Led→Int→Value→Shared→Prop) (R:Rec) (c:Cx):Prop:=
 ∀ st,zz3 w K ti fr U c λ σ ad fz s=>Sd (model prog w) U K w.params ti fr RX c ad fz (FlR K w.params) (exec st c.env) (R.S c.sc st σ) s
theorem sd_ss (hRX:RXm RX) {R:Rec}(hS:SS prog w K ti fr U RX R c) (l:List Stmt):zz3 w K ti fr U c λ σ ad fz s=>
  Sd (model prog w) U K w.params ti fr RX c ad fz (FlR K w.params) (execs l c.env) (evSs R c.sc l σ) s:=by
 induction l with
 | nil=>exact λ σ ad own tb fz m s I=>wpAny_execs_nil (.mk I .next)
 | cons st r ih=>
  intro σ ad own tb fz m s I
  rw [execs_cons]
  refine Sd.bnd hRX (hS st _ _ _ _ _ _ _ I) λ f σ f' s' ad₂ own₂ tb₂ fz₂ m₂ hp hf I₂ hb=>?_
  cases hb with
  | next=>exact ih _ _ _ _ _ _ _ I₂
  | brk=>exact Sd.ok I₂ .brk
  | cont=>exact Sd.ok I₂ .cont
  | ret h=>exact Sd.ok I₂ (.ret h)
theorem noComp_all {e:PySem.Expr}{t:Option PySem.Expr}{n:Nat}{env:Env}(h:(pure false:Sem Bool)=pure false):zzt e=true→swapsWith e t n env=pure false:=
 PySem.Expr.casesOn (motive_1:=λ e=>zzt e=true→swapsWith e t n env=pure false) e (λ _ _ _ _=>h) (λ _ _ _ _=>h) (λ _ _ _ _ _=>h) (λ _ _ _ _=>h) (λ _ _ _ _ _=>h) (λ _ _ _ _ _=>h) (λ _ _ _ _=>h) (λ _ _ _ _=>h) (λ _ _ _ _ h=>Bool.noConfusion h) (λ _ _ _ _ h=>Bool.noConfusion h) (λ _ _ _ _ _ h=>Bool.noConfusion h) (λ _ _ _ _ _=>h) (λ _ _ _=>h) (λ _ _ _=>h) (λ _ _ _=>h) (λ _ _ _ _ _=>h) (λ _ _ _ _ _=>h) (λ _ _ _ _ _=>h) (λ _ _ _=>h) (λ _ _ _ _=>h) (λ _ _ _ _=>h) (λ _ _ _ _=>h) (λ _ _ _=>h) (λ _ _ _=>h) (λ _ _ _=>h) (λ _ _ _ _=>h) (λ _ _ _ _ _=>h)
theorem zxa {e:PySem.Expr}{t:Option PySem.Expr}{n:Nat}{env:Env}(h:zzt e=true):swapsWith e t n env=pure false:=noComp_all rfl h
theorem ite_l {α:Type}{c:Prop} [Decidable c] {x y:α}(h:y=x):(if c then x else y)=x:=by rw [h];exact ite_self x
theorem tupOk_two {ts vs:List PySem.Expr}{k k' q q'} {env:Env}(h:vs.all (foldedForSure 8)=true):swappedStores [.Tuple ts k q] (.Tuple vs k' q') env=pure none:=by
 unfold swappedStores
 dsimp only
 exact ite_l (ite_l (ite_l (if_pos h)))
theorem tupOk_tup {ts:List PySem.Expr}{k q} {e:PySem.Expr}{env:Env}(h0:(pure none:Sem (Option (List Str)))=pure none):(Option.rec true (λ vs=>vs.all (foldedForSure 8)) (oTup e):Bool)=true→swappedStores [.Tuple ts k q] e env=pure none:=
 PySem.Expr.casesOn (motive_1:=λ e=>(Option.rec true (λ vs=>vs.all (foldedForSure 8)) (oTup e):Bool)=true→swappedStores [.Tuple ts k q] e env=pure none) e (λ _ _ _ _=>h0) (λ _ _ _ _=>h0) (λ _ _ _ _ _=>h0) (λ _ _ _ _=>h0) (λ _ _ _ _ _=>h0) (λ _ _ _ _ _=>h0) (λ _ _ _ _=>h0) (λ _ _ _ _=>h0) (λ _ _ _ _ _=>h0) (λ _ _ _ _ _=>h0) (λ _ _ _ _ _ _=>h0) (λ _ _ _ _ _=>h0) (λ _ _ _=>h0) (λ _ _ _=>h0) (λ _ _ _=>h0) (λ _ _ _ _ _=>h0) (λ _ _ _ _ _=>h0) (λ _ _ _ _ _=>h0) (λ _ _ _=>h0) (λ _ _ _ _=>h0) (λ _ _ _ _=>h0) (λ _ _ _ _=>h0) (λ _ _ _=>h0) (λ _ _ _=>h0) (λ _ _ _=>h0) (λ _ _ _ h=>tupOk_two h) (λ _ _ _ _ _=>h0)
theorem tupOk_all {t e:PySem.Expr}{env:Env}(h0:(pure none:Sem (Option (List Str)))=pure none):tupOk t e=true→swappedStores [t] e env=pure none:=
 PySem.Expr.casesOn (motive_1:=λ t=>tupOk t e=true→swappedStores [t] e env=pure none) t (λ _ _ _ _=>h0) (λ _ _ _ _=>h0) (λ _ _ _ _ _=>h0) (λ _ _ _ _=>h0) (λ _ _ _ _ _=>h0) (λ _ _ _ _ _=>h0) (λ _ _ _ _=>h0) (λ _ _ _ _=>h0) (λ _ _ _ _ _=>h0) (λ _ _ _ _ _=>h0) (λ _ _ _ _ _ _=>h0) (λ _ _ _ _ _=>h0) (λ _ _ _=>h0) (λ _ _ _=>h0) (λ _ _ _=>h0) (λ _ _ _ _ _=>h0) (λ _ _ _ _ _=>h0) (λ _ _ _ _ _=>h0) (λ _ _ _=>h0) (λ _ _ _ _=>h0) (λ _ _ _ _=>h0) (λ _ _ _ _=>h0) (λ _ _ h=>Bool.noConfusion h) (λ _ _ _=>h0) (λ _ _ h=>Bool.noConfusion h) (λ _ _ _ h=>tupOk_tup rfl h) (λ _ _ _ _ _=>h0)
theorem zxg {t e:PySem.Expr}{env:Env}(h:tupOk t e=true):swappedStores [t] e env=pure none:=tupOk_all rfl h
theorem namesOn_eq {sc:Scope}{line:Nat}{f:PySem.Expr→Option Str}(hf:∀ id pos,f (.Name id pos)=if (sc.names.lookup id == some .local && pos.line == line) then some id else none) {ts:List PySem.Expr}:∀ {ns:List Str},namesOn sc line ts=some ns →
  ts.filterMap f=ns∧ns.length=ts.length∧∀ x∈ns,sc.names.lookup x=some .local:=by
 induction ts with
 | nil=>exact λ e=>sm_q e ⟨rfl,rfl,λ _ h=>nomatch h⟩
 | cons t r ih=>
  intro ns e
  refine bd_q e λ x hx e=>mp_q e λ ns' h1=>bd_q hx λ p hp hx=>gd_q hx λ q hx=>?_
  obtain ⟨i1,i2,i3⟩:=ih h1
  rw [zzx hp,List.filterMap_cons,hf,if_pos q]
  refine ⟨by rw [i1,Option.some.inj hx],congrArg (· + 1) i2,λ y hy=>?_⟩
  rcases List.mem_cons.mp hy with e | hy
  ·rw [e,← Option.some.inj hx];exact beq_iff_eq.mp (Bool.and_eq_true_iff.mp q).1
  ·exact i3 y hy
theorem noStar_any' {vs:List PySem.Expr}{f:PySem.Expr→Bool}(hf:∀ e,noStar e=true→f e=false) (h:vs.all noStar=true):vs.any f=false:=by
 rw [List.any_eq_false]
 exact λ x hx=>by rw [hf x (List.all_eq_true.mp h x hx)];decide
theorem noStar_f {e:PySem.Expr}:noStar e=true→(match e with | .Starred ..=>true | _=>false)=false:=
 PySem.Expr.casesOn (motive_1:=λ e=>noStar e=true→(match e with | .Starred ..=>true | _=>false)=false) e (λ _ _ _ _=>Eq.refl false) (λ _ _ _ _=>Eq.refl false) (λ _ _ _ _ _=>Eq.refl false) (λ _ _ _ _=>Eq.refl false) (λ _ _ _ _ _=>Eq.refl false) (λ _ _ _ _ _=>Eq.refl false) (λ _ _ _ _=>Eq.refl false) (λ _ _ _ _=>Eq.refl false) (λ _ _ _ _ _=>Eq.refl false) (λ _ _ _ _ _=>Eq.refl false) (λ _ _ _ _ _ _=>Eq.refl false) (λ _ _ _ _ _=>Eq.refl false) (λ _ _ _=>Eq.refl false) (λ _ _ _=>Eq.refl false) (λ _ _ _=>Eq.refl false) (λ _ _ _ _ _=>Eq.refl false) (λ _ _ _ _ _=>Eq.refl false) (λ _ _ _ _ _=>Eq.refl false) (λ _ _ _=>Eq.refl false) (λ _ _ _ _=>Eq.refl false) (λ _ _ _ _=>Eq.refl false) (λ _ _ _ _=>Eq.refl false) (λ _ _ h=>Bool.noConfusion h) (λ _ _ _=>Eq.refl false) (λ _ _ _=>Eq.refl false) (λ _ _ _ _=>Eq.refl false) (λ _ _ _ _ _=>Eq.refl false)
theorem swapA_stores {t e:PySem.Expr}{ns:List Str}(hk:c.sc.kind=.function) (h:swapA c.sc t e=some ns):swappedStores [t] e c.env=pure (some ns)∧∀ x∈ns,c.sc.names.lookup x=some .local:=by
 refine bd_q h λ ts h1 h=>bd_q h λ vs h2 h=>bd_q h λ t₀ h3 h=>bd_q h λ ns' hns h=>gd_q h λ hc h=>?_
 cases Option.some.inj h
 obtain ⟨k1,q1,rfl⟩:=oTup_e h1
 obtain ⟨k2,q2,rfl⟩:=oTup_e h2
 simp only [Bool.and_eq_true,Bool.not_eq_true',beq_iff_eq] at hc
 obtain ⟨⟨⟨⟨⟨c1,c2⟩,c3⟩,c4⟩,c5⟩,c6⟩:=hc
 obtain ⟨i1,i2,i3⟩:=namesOn_eq (f:=λ e=>match e with | .Name id pos=>if (c.env.kindOf id == some .local && pos.line == (ts.head?.map (·.pos.line)).getD 0) then some id else none | _=>none) (λ id pos=>by rw [h3];rfl) hns
 refine ⟨?_,i3⟩
 have hb:c.env.blockKind=.function:=by
  show (if c.sc.kind.isAnnotationScope then _ else _)=_
  rw [hk];rfl
 unfold swappedStores
 dsimp only
 refine Eq.trans (if_neg (by rw [hb,← i2,c1,c2];simp)) ?_
 refine Eq.trans (if_neg (λ q=>Bool.noConfusion (q.symm.trans (noStar_any' (λ e h=>noStar_f h) c3)))) ?_
 refine Eq.trans (if_neg (λ q=>?_)) ?_
 ·erw [i1] at q
  rw [c4,i2] at q
  simp at q
 refine Eq.trans (if_neg (by rw [c5];decide)) ?_
 refine Eq.trans (if_neg (by rw [c6];decide)) ?_
 exact congrArg (λ x=>pure (some x)) i1
theorem asNs_len {ns:List Str}{sc:Scope}:∀ {as:List AV}{σ σ':St},asNs sc ns as σ=some σ'→ns.length=as.length:=by
 induction ns with
 | nil=>
  intro as σ σ' e
  cases as with
  | nil=>rfl
  | cons=>exact nn e
 | cons x xs ih=>
  intro as σ σ' e
  cases as with
  | nil=>exact nn e
  | cons a as=>exact bd_q e λ _ _ h=>congrArg (· + 1) (ih h)
theorem plainA_app {a b:List AV}:zqc (a++b)=(zqc a && zqc b):=by
 induction a with
 | nil=>rfl
 | cons x a ih=>
  show cd (conS x) false (zqc (a++b))=(cd (conS x) false (zqc a) && zqc b)
  rw [ih]
  cases conS x<;>rfl
theorem plainA_rev {a:List AV}:zqc a.reverse=zqc a:=by
 induction a with
 | nil=>rfl
 | cons x a ih=>
  rw [List.reverse_cons,plainA_app,ih]
  show (zqc a && cd (conS x) false true)=cd (conS x) false (zqc a)
  cases conS x<;>cases zqc a<;>rfl
theorem zx2 {x:AV}{a:List AV}(h:zqc (x::a)=true):conS x=false:=by
 cases q:conS x with
 | false=>rfl
 | true=>have h:cd (conS x) false (zqc a)=true:=h;rw [q] at h;cases h
theorem VRs.rev {P:Params}{as:List AV}{vs:List Value}(q:VRs K P ad fz as vs):zqc as=true→VRs K P ad fz as.reverse vs.reverse:=by
 refine q.rec1 (M:=λ as vs=>zqc as=true→VRs K P ad fz as.reverse vs.reverse) (λ _=>.nil) (λ a _ ih h=>?_) (λ _ _ _ _ _ h=>zzb h)
 rw [zxi a.notSp] at h
 rw [List.reverse_cons,List.reverse_cons]
 exact (ih h).append (.cons a .nil)
theorem sd_asNs (hRX:RXm RX) {P:Params}(hk:c.sc.kind=.function) (ns:List Str):∀ {as:List AV}{vs:List Value}{σ:St}{ad:List Ad}{own tb fz:Led}{m:Str→Option Value}{s:Shared}{σ':St},
  Inv U K P ti fr c σ ad own tb fz m s→VRs K P ad fz as vs→zqc as=true→asNs c.sc ns as σ=some σ' →
   Sd (model prog w) U K P ti fr RX c ad fz (FlR K P) (do assignInOrder (ns.map λ n=>bindName c.env n) vs;pure Flow.next) (ok .next σ') s:=by
 induction ns with
 | nil=>
  intro as vs σ ad own tb fz m s σ' I hv _ e
  cases as with
  | nil=>exact hv.qNil (sm_q e (wpAny_bind (wpAny_pure (wpAny_pure (.mk I .next)))))
  | cons=>exact nn e
 | cons x xs ih=>
  intro as vs σ ad own tb fz m s σ' I hv hp e
  cases as with
  | nil=>exact nn e
  | cons a as=>
   have hc:=zx2 hp
   rw [zxi hc] at hp
   refine bd_q e λ σ₁ h1 h2=>gd_q h1 λ hx h1=>hv.qCons hc λ {v vs} h3 h4=>?_
   have g:Sd (model prog w) U K P ti fr RX c ad fz Any (bindName c.env x v) (ok () σ₁) s:=sm_q h1 (wpAny_bindName (wpAny_mono (sd_store hk (zx5 hx) I h3) (λ _ s' h=>h.elim λ m' I'=>.mk I' trivial) λ _ _ h=>h))
   show Sd _ _ _ _ _ _ _ _ _ _ _ ((do holding _ (bindName c.env x v);assignInOrder (xs.map λ n=>bindName c.env n) vs) >>= λ _=>pure Flow.next) _ _
   rw [bind_assoc]
   exact Sd.seq hRX (Sd.hold g) λ _ s' ad' own' tb' fz' m' hp' hf' I' _=>ih I' (h4.mono hp' hf') hp h2
theorem Sd.un {β γ δ:Type}{P:Params}{rel:List Ad→Led→γ→δ→Prop}{t:Sem β}{f:β→Sem δ}{b:β}{r:Ou γ}
  (h:∀ Q E,(∀ h',Fr c.h₀ c.L h' m→News c.h₀ c.L h' (own++(tb++(fr++fz)))→Q b { s with heap:=h' })→wpAny (model prog w) c.A t Q E s)
  (h2:∀ h',Fr c.h₀ c.L h' m→News c.h₀ c.L h' (own++(tb++(fr++fz)))→Sd (model prog w) U K P ti fr RX c ad fz rel (f b) r { s with heap:=h' }) :
  Sd (model prog w) U K P ti fr RX c ad fz rel (t >>= f) r s:=by
 cases r with
 | none=>trivial
 | some r=>cases r with
  | ok a σ=>exact wpAny_bind (h _ _ λ h' F' N'=>h2 h' F' N')
  | exc i=>exact wpAny_bind (h _ _ λ h' F' N'=>h2 h' F' N')
theorem stepSV_cd {R:Rec}{sc:Scope}{b:Bool}{v:SV}:zjx R sc (cd b v .no) σ=gd b (zjx R sc v σ):=by cases b<;>rfl
theorem stepSV_cd2 {R:Rec}{sc:Scope}{b:Bool}{v v':SV}:zjx R sc (cd b v v') σ=cd b (zjx R sc v σ) (zjx R sc v' σ):=by cases b<;>rfl
theorem sd_asgn (hRX:RXm RX) {R:Rec}{k:Nat}{t e:PySem.Expr}{pos:Pos}(FA:zqr K w.params O) (Y:Ok p loose mg mb K c k) (hE:SE prog w K ti fr U RX R c) (I:Inv U K w.params ti fr c σ ad own tb fz m s) (h1:zzt e=true) (h2:tupOk t e=true) :
  Sd (model prog w) U K w.params ti fr RX c ad fz (FlR K w.params) (exec (.Assign [t] e pos) c.env) (bnd (R.E c.sc e σ) λ v σ=>bnd (evAs R c.sc t v σ) λ _ σ=>ok .next σ) s:=by
 have he:(assignEach [t] c.env).map (·.2)=[assign t c.env]:=
  PySem.Expr.casesOn (motive_1:=λ t=>tupOk t e=true→(assignEach [t] c.env).map (·.2)=[assign t c.env]) t (λ _ _ _ _=>rfl) (λ _ _ _ _=>rfl) (λ _ _ _ _ _=>rfl) (λ _ _ _ _=>rfl) (λ _ _ _ _ _=>rfl) (λ _ _ _ _ _=>rfl) (λ _ _ _ _=>rfl) (λ _ _ _ _=>rfl) (λ _ _ _ _ _=>rfl) (λ _ _ _ _ _=>rfl) (λ _ _ _ _ _ _=>rfl) (λ _ _ _ _ _=>rfl) (λ _ _ _=>rfl) (λ _ _ _=>rfl) (λ _ _ _=>rfl) (λ _ _ _ _ _=>rfl) (λ _ _ _ _ _=>rfl) (λ _ _ _ _ _=>rfl) (λ _ _ _=>rfl) (λ _ _ _ _=>rfl) (λ _ _ _ _=>rfl) (λ _ _ _ _=>rfl) (λ _ _ h=>Bool.noConfusion h) (λ _ _ _=>rfl) (λ _ _ _=>rfl) (λ _ _ _ _=>rfl) (λ _ _ _ _ _=>rfl) h2
 rw [exec_Assign_arm]
 have hsole:swapsWithSole [t] e pos.line c.env=pure false:=zxa h1
 rw [hsole,zxg h2]
 refine Sd.stand (Sd.wp (λ Q E h=>wpAny_bind (wpAny_pure h)) ?_)
 rw [if_neg (by decide)]
 refine Sd.bnd hRX (hE e _ _ _ _ _ _ _ I) λ a σ va s₁ ad₁ own₁ tb₁ fz₁ m₁ _ _ I₁ ha=>Sd.wp (λ Q E h=>wpAny_bind (wpAny_pure h)) ?_
 rw [he]
 show Sd _ _ _ _ _ _ _ _ _ _ _ (do assign t c.env va;pure Flow.next) _ _
 exact Sd.bnd hRX (sd_as hRX t FA Y hE I₁ ha) λ _ σ _ s₁ ad₁ own₁ tb₁ fz₁ m₁ _ _ I₁ _=>Sd.ok I₁ .next
theorem sd_swp (hRX:RXm RX) {R:Rec}{k:Nat}{t e:PySem.Expr}{pos:Pos}(Y:Ok p loose mg mb K c k) (hE:SE prog w K ti fr U RX R c) (I:Inv U K w.params ti fr c σ ad own tb fz m s) (h1:zzt e=true) :
  Sd (model prog w) U K w.params ti fr RX c ad fz (FlR K w.params) (exec (.Assign [t] e pos) c.env) (armSwp R c.sc t e σ) s:=by
 refine Sd.lft λ ns hns=>?_
 obtain ⟨g1,g2⟩:=swapA_stores (c:=c) Y.kf hns
 rw [exec_Assign_arm]
 have hsole:swapsWithSole [t] e pos.line c.env=pure false:=zxa h1
 rw [hsole,g1]
 refine Sd.stand (Sd.wp (λ Q E h=>wpAny_bind (wpAny_pure h)) ?_)
 rw [if_neg (by decide)]
 refine Sd.bnd hRX (hE e _ _ _ _ _ _ _ I) λ a σ va s₁ ad₁ own₁ tb₁ fz₁ m₁ _ _ I₁ ha=>Sd.wp (λ Q E h=>wpAny_bind (wpAny_pure h)) (Sd.lft λ vs ev=>Sd.gd λ hp=>Sd.lft λ σ' e=>ha.qTup ev λ {ws a n dd sl} h1 h2=>?_)
 show Sd _ _ _ _ _ _ _ _ _ _ _ (do rule "assign.swapped-stores";let items ← unpackItems (.ref a) ns.length none;assignInOrder (ns.reverse.map λ n=>bindName c.env n) items.reverse;pure Flow.next) _ _
 have hl2:=asNs_len e
 refine Sd.wp (λ Q E h=>wpAny_bind (wpAny_rule h)) (Sd.un (t:=unpackItems _ ns.length none) (λ Q E h=>unpackItemsN_ I₁.F I₁.N (zql I₁ Y.X h1) Y.hh (by rw [List.length_reverse,List.length_reverse] at hl2;rw [List.size_toArray,h2.plain hp,hl2]) h) λ h' F' N'=>?_)
 exact sd_asNs (RX:=RX) hRX Y.kf ns.reverse ⟨F',N',I₁.nd,I₁.ow,I₁.tb,I₁.lo,I₁.og⟩ (h2.rev hp) (by rw [plainA_rev];exact hp) e
theorem sd_stepS (hRX:RXm RX) {R:Rec}{k:Nat}(FA:zqr K w.params O) (Y:Ok p loose mg mb K c k) (hE:SE prog w K ti fr U RX R c) (hT:ST prog w K ti fr U RX R c) (hS:SS prog w K ti fr U RX R c)
  (hW:∀ t a b ps,zz3 w K ti fr U c λ σ ad fz s=>Sd (model prog w) U K w.params ti fr RX c ad fz (FlR K w.params) (exec (.While t a b ps) c.env) (stepS R c.sc (.While t a b ps) σ) s)
  (hF:∀ t i a b ps,zz3 w K ti fr U c λ σ ad fz s=>Sd (model prog w) U K w.params ti fr RX c ad fz (FlR K w.params) (exec (.For t i a b ps) c.env) (stepS R c.sc (.For t i a b ps) σ) s)
  (hR:∀ e f ps,zz3 w K ti fr U c λ σ ad fz s=>Sd (model prog w) U K w.params ti fr RX c ad fz (FlR K w.params) (exec (.Raise e f ps) c.env) (stepS R c.sc (.Raise e f ps) σ) s)
  (st:Stmt) (I:Inv U K w.params ti fr c σ ad own tb fz m s):Sd (model prog w) U K w.params ti fr RX c ad fz (FlR K w.params) (exec st c.env) (stepS R c.sc st σ) s:=by
 cases st with
 | Expr e pos=>
  show Sd _ _ _ _ _ _ _ _ _ _ _ _ (zjx R c.sc (cd (zzt e) (.expr e) .no) σ) _
  rw [stepSV_cd]
  refine Sd.gd λ hc=>?_
  have hi:interactive c.env=false:=by
   show (c.sc.kind == .module && _)=false
   rw [Y.kf];rfl
  rw [exec_Expr c.env e pos hi (zxa hc)]
  exact Sd.stand (Sd.bnd hRX (hE e _ _ _ _ _ _ _ I) λ a σ va s₁ ad₁ own₁ tb₁ fz₁ m₁ _ _ I₁ ha=>wpAny_dropValue (.mk I₁ .next))
 | Return e pos=>
  cases e with
  | none=>trivial
  | some e=>
   rw [exec_Return_some]
   exact Sd.stand (Sd.bnd hRX (hE e _ _ _ _ _ _ _ I) λ a σ va s₁ ad₁ own₁ tb₁ fz₁ m₁ _ _ I₁ ha=>Sd.ok I₁ (.ret ha))
 | Assign ts e pos=>
  cases ts with
  | nil=>trivial
  | cons t ts=>cases ts with
   | cons=>trivial
   | nil=>
    show Sd _ _ _ _ _ _ _ _ _ _ _ _ (zjx R c.sc (cd (zzt e) (cd (tupOk t e) (.asg t e) (.swp t e)) .no) σ) _
    rw [stepSV_cd,stepSV_cd2]
    exact Sd.gd λ h1=>Sd.cd (λ h2=>sd_asgn hRX FA Y hE I h1 h2) λ _=>sd_swp hRX Y hE I h1
 | If t a b pos=>
  rw [exec_If]
  show Sd _ _ _ _ _ _ _ _ _ _ _ _ (bnd (R.T c.sc t σ) λ x σ=>cd x (evSs R c.sc a σ) (evSs R c.sc b σ)) _
  refine Sd.stand (Sd.bnd hRX (hT t _ _ _ _ _ _ _ I) λ x σ b' s' ad₂ own₂ tb₂ fz₂ m₂ hp hf I₂ hb=>?_)
  cases hb
  cases x
  ·exact sd_ss hRX hS b _ _ _ _ _ _ _ I₂
  ·exact sd_ss hRX hS a _ _ _ _ _ _ _ I₂
 | While t a b ps=>exact hW t a b ps _ _ _ _ _ _ _ I
 | For t i a b ps=>exact hF t i a b ps _ _ _ _ _ _ _ I
 | Raise e f ps=>exact hR e f ps _ _ _ _ _ _ _ I
 | _=>trivial
end
end
section
section
variable {prog:Program}{w:World}{K:Frag}{ti:List TabI}{fr:Led}{U:SubP}{c:Cx}{RX RN:Cx→Led→Int→Value→Shared→Prop}{O:Out}
 {σ:St}{ad:List Ad}{own tb fz:Led}{m:Str→Option Value}{s:Shared}{p:Program}{loose:List Str}{mg mb:Str→Option Value}
structure Flies (prog:Program) (w:World) (RX RN:Cx→Led→Int→Value→Shared→Prop) (c:Cx):Prop where
 note:∀ fz i e s,RX c fz i e s→notedBy (model prog w) c.A c.env (RN c fz i) e s
 back:∀ fz i e s,RN c fz i e s→cameBackBy (model prog w) c.A c.env (RX c fz i) e s
noncomputable def CP (U:SubP) (K:Frag) (P:Params) (ti:List TabI) (fr:Led) (RN:Cx→Led→Int→Value→Shared→Prop) (c:Cx) (ad:List Ad) (fz:Led) (x:Rs Fl) (r:Result) (s':Shared):Prop:=
 Except.rec (λ e=>Rs.rec (λ _ _=>False) (λ i=>RN c (fr++fz) i e s') x) (λ f=>Rs.rec (λ a σ=>OkP U K P ti fr c ad fz (FlR K P) a σ f s') (λ _=>False) x) r
noncomputable def SdC (M:Model) (U:SubP) (K:Frag) (P:Params) (ti:List TabI) (fr:Led) (RN:Cx→Led→Int→Value→Shared→Prop) (c:Cx) (ad:List Ad) (fz:Led) (t:Code) (r:Ou Fl) (s:Shared):Prop:=∀ x,r=some x→codeAny M c.A t (CP U K P ti fr RN c ad fz x) s
noncomputable def SW (prog:Program) (w:World) (K:Frag) (ti:List TabI) (fr:Led) (U:SubP) (RN:Cx→Led→Int→Value→Shared→Prop) (R:Rec) (c:Cx):Prop:=
 ∀ t a,zz3 w K ti fr U c λ σ ad fz s=>SdC (model prog w) U K w.params ti fr RN c ad fz (.whileLoop t a [] c.env) (R.W c.sc t a σ) s
theorem CP.up {P:Params}(hRN:RXm RN) {ad ad':List Ad}{fz fz':Led}{x:Rs Fl}{r:Result}{s:Shared}(hp:Pre ad ad') (hf:fz⊆fz') (h:CP U K P ti fr RN c ad' fz' x r s):CP U K P ti fr RN c ad fz x r s:=by
 cases x with
 | ok a σ=>cases r with
  | error e=>exact h
  | ok f=>exact OkP.up hp hf h
 | exc i=>cases r with
  | error e=>exact hRN _ _ _ _ _ _ (λ q hq=>List.mem_append.mpr ((List.mem_append.mp hq).imp_right λ h=>hf h)) h
  | ok f=>exact h
theorem bnd_q {α β:Type}{x:Ou α}{k:α→St→Ou β}{r:Rs β}{Q:Prop}(h:bnd x k=some r) (h1:∀ a σ,x=some (.ok a σ)→k a σ=some r→Q) (h2:∀ i,x=some (.exc i)→.exc i=r→Q):Q:=by
 cases x with
 | none=>exact nn h
 | some x=>cases x with
  | ok a σ=>exact h1 a σ rfl h
  | exc i=>exact h2 i rfl (Option.some.inj h)
theorem code_turn {A:Around}{test:PySem.Expr}{body orelse:List Stmt}{env:Env}{R:Result→Shared→Prop}
  (h:wpAny (model prog w) A (isTrue test env (eval test env)) (λ b s₂=>
    if b then wpAny (model prog w) A (execs body env) (λ f s₃=>match f with
      | .next | .cont=>codeAny (model prog w) A (.whileLoop test body orelse env) R s₃
      | .brk=>R (.ok .next) s₃
      | .ret v=>R (.ok (.ret v)) s₃) (notedBy (model prog w) A env λ e s'=>R (.error e) s') s₂
    else wpAny (model prog w) A (execs orelse env) (λ f s₃=>R (.ok f) s₃) (notedBy (model prog w) A env λ e s'=>R (.error e) s') s₂)
    (notedBy (model prog w) A env λ e s'=>R (.error e) s') s):codeAny (model prog w) A (.whileLoop test body orelse env) R s:=by
 refine codeAny_of_tree ?_
 show wpAny _ A ((whileTurn test body orelse env).onRaise (λ x=>do noteFrame x env;theTreesLotGoes x)) _ _ s
 refine wpAny_noted ?_
 simp only [whileTurn]
 refine wpAny_bind (wpAny_mono h (λ b s₂ h₂=>?_) λ _ _ h'=>h')
 cases b with
 | false=>
  simp only [Bool.false_eq_true,if_false] at h₂ ⊢
  exact wpAny_bind (wpAny_mono h₂ (λ f s₃ h₃=>wpAny_pure h₃) λ _ _ h'=>h')
 | true=>
  simp only [if_true] at h₂ ⊢
  refine wpAny_bind (wpAny_mono h₂ (λ f s₃ h₃=>?_) λ _ _ h'=>h')
  cases f with
  | next=>exact wpAny_pure ⟨rfl,h₃⟩
  | cont=>exact wpAny_pure ⟨rfl,h₃⟩
  | brk=>exact wpAny_pure h₃
  | ret v=>exact wpAny_pure h₃
theorem sd_stepW (hRX:RXm RX) (hRN:RXm RN) (hfl:Flies prog w RX RN c) {R:Rec}(hT:ST prog w K ti fr U RX R c) (hS:SS prog w K ti fr U RX R c) (hW:SW prog w K ti fr U RN R c)
  (t:PySem.Expr) (a:List Stmt) (I:Inv U K w.params ti fr c σ ad own tb fz m s):SdC (model prog w) U K w.params ti fr RN c ad fz (.whileLoop t a [] c.env) (stepW R c.sc t a σ) s:=by
 intro x hx
 have h1:Sd (model prog w) U K w.params ti fr RX c ad fz EqB (isTrue t c.env (eval t c.env)) (R.T c.sc t σ) s:=hT t _ _ _ _ _ _ _ I
 refine bnd_q hx (λ b σ₁ e1 h=>?_) λ i e1 ex=>?_
 ·rw [e1] at h1
  refine code_turn (wpAny_mono h1 (λ b' s₂ q=>?_) λ _ _ h=>h.elim)
  refine q.casesOn λ ad' own' tb' fz' m' a1 a2 a3 a4=>?_
  cases a4
  refine cd_q h (λ hb h=>?_) λ hb h=>?_
  ·rw [hb]
   have h2:Sd (model prog w) U K w.params ti fr RX c ad fz (FlR K w.params) (execs a c.env) (evSs R c.sc a σ₁) s₂:=(sd_ss (RX:=RX) hRX hS a _ _ _ _ _ _ _ a3).up hRX a1 a2
   refine bnd_q h (λ f σ₂ e2 h=>?_) λ i e2 ex=>?_
   ·rw [e2] at h2
    refine wpAny_mono h2 (λ f' s' q=>?_) λ _ _ h=>h.elim
    refine q.casesOn λ ad₂ own₂ tb₂ fz₂ m₂ g1 g2 g3 g4=>?_
    cases g4 with
    | next=>exact codeAny_mono (hW t a _ _ _ _ _ _ _ g3 x h) λ _ _ h=>h.up hRN g1 g2
    | cont=>exact codeAny_mono (hW t a _ _ _ _ _ _ _ g3 x h) λ _ _ h=>h.up hRN g1 g2
    | brk=>exact Option.some.inj h▸.pk _ _ _ _ _ g1 g2 g3 .next
    | ret g=>exact Option.some.inj h▸.pk _ _ _ _ _ g1 g2 g3 (.ret g)
   ·rw [e2] at h2
    exact wpAny_mono h2 (λ _ _ h=>h.elim) λ e s' h=>ex▸hfl.note _ _ _ _ h
  ·rw [hb]
   exact wpAny_execs_nil (Option.some.inj h▸.pk _ _ _ _ _ a1 a2 a3 .next)
 ·rw [e1] at h1
  exact code_turn (wpAny_mono h1 (λ _ _ h=>h.elim) λ e s' h=>ex▸hfl.note _ _ _ _ h)
theorem sd_while (hRX:RXm RX) (hfl:Flies prog w RX RN c) {R:Rec}(hW:SW prog w K ti fr U RN R c) (t:PySem.Expr) (a b:List Stmt) (ps:Pos) (I:Inv U K w.params ti fr c σ ad own tb fz m s) :
  Sd (model prog w) U K w.params ti fr RX c ad fz (FlR K w.params) (exec (.While t a b ps) c.env) (stepS R c.sc (.While t a b ps) σ) s:=by
 cases b with
 | cons=>trivial
 | nil=>
  rw [exec_While]
  refine Sd.stand ?_
  show Sd _ _ _ _ _ _ _ _ _ _ _ _ (R.W c.sc t a σ) _
  have h:=hW t a _ _ _ _ _ _ _ I
  cases q:R.W c.sc t a σ with
  | none=>trivial
  | some x=>
   have h:=h x q
   cases x with
   | ok f σ'=>exact wpAny_runOwn (codeAny_mono h λ r s' g=>by cases r<;>first | exact g | exact g.elim)
   | exc i=>exact wpAny_runOwn (codeAny_mono h λ r s' g=>by
         cases r with
         | ok f=>exact g.elim
         | error e=>exact hfl.back _ _ _ _ g)
end
end
section
inductive BindR (K:Frag) (P:Params) (ad:List Ad) (fz:Led):List (Str × AV)→List (Str × Value)→Prop
 | nil:BindR K P ad fz [] []
 | cons {x a v f es}:VR K P ad fz a v→BindR K P ad fz f es→BindR K P ad fz ((x,a)::f) ((x,v)::es)
section
variable {prog:Program}{w:World}{K:Frag}{ti:List TabI}{fr:Led}{U:SubP}{c:Cx}{RX RN:Cx→Led→Int→Value→Shared→Prop}{O:Out}
 {σ:St}{ad:List Ad}{own tb fz:Led}{m:Str→Option Value}{s:Shared}{p:Program}{loose:List Str}{mg mb:Str→Option Value}
theorem BindR.look {P:Params}{x:Str}{a:AV}{f es} (h:BindR K P ad fz f es):zqn x f=some a→∃ v,es.lookup x=some v∧VR K P ad fz a v:=by
 induction h with
 | nil=>exact nn
 | @cons k b v f es h _ ih=>
  intro e
  refine cd_q e (λ q e=>?_) λ q e=>?_
  ·exact ⟨v,by rw [List.lookup_cons,show k=x from zqo.mp q];simp,.som e h⟩
  ·obtain ⟨v,h1,h2⟩:=ih e
   exact ⟨v,by rw [List.lookup_cons,show (x == k)=false from beq_eq_false_iff_ne.mpr (Ne.symm (zz5.mp q))];exact h1,h2⟩
theorem VRs.drop {P:Params}{l vs} (h:VRs K P ad fz l vs):∀ (k:Nat),zqc l=true→VRs K P ad fz (l.drop k) (vs.drop k)∧zqc (l.drop k)=true:=by
 refine h.rec1 (M:=λ l vs=>∀ k,zqc l=true→VRs K P ad fz (l.drop k) (vs.drop k)∧zqc (l.drop k)=true) (λ k e=>?_) (λ a b ih k e=>?_) λ _ _ _ _ _ _ e=>zzb e
 ·rw [List.drop_nil,List.drop_nil];exact ⟨.nil,rfl⟩
 ·cases k with
  | zero=>exact ⟨.cons a b,e⟩
  | succ k=>exact ih k ((zxi a.notSp).symm.trans e)
theorem bind_rel {P:Params}{d:List AV}{dv:List Value}(hd:VRs K P ad fz d dv) (hpd:zqc d=true) {ps:List Str}:∀ {as:List AV}{bs:List (Str × AV)}{vs:List Value},bindA ps as d=some bs→VRs K P ad fz as vs→zqc as=true →
  vs.length≤ps.length∧ps.length≤vs.length + dv.length∧BindR K P ad fz bs (ps.zip (vs++dv.drop (dv.length - (ps.length - vs.length)))):=by
 induction ps with
 | nil=>
  intro as bs vs e h hp
  cases as with
  | nil=>exact sm_q e (h.qNil ⟨Nat.le_refl _,by simp,.nil⟩)
  | cons=>exact nn e
 | cons p ps ih=>
  intro as bs vs e h hp
  cases as with
  | cons a as=>
   refine mp_q e λ bs' h1=>h.qCons (zx2 hp) λ {v vs} h2 h3=>?_
   rw [zxi h2.notSp] at hp
   obtain ⟨i1,i2,i3⟩:=ih h1 h3 hp
   refine ⟨Nat.succ_le_succ i1,by rw [List.length_cons,List.length_cons];omega,?_⟩
   rw [List.length_cons,List.length_cons,List.cons_append,List.zip_cons_cons,Nat.add_sub_add_right]
   exact .cons h2 i3
  | nil=>
   refine h.qNil (gd_q e λ q e=>?_)
   have q:=Nat.le_of_ble_eq_true q
   have hl:=hd.plain hpd
   cases he:d.drop (d.length - (ps.length + 1)) with
   | nil=>rw [he] at e;exact nn e
   | cons a r=>
    rw [he] at e
    refine mp_q e λ bs' h1=>?_
    obtain ⟨i1,i2,i3⟩:=ih h1 .nil rfl
    obtain ⟨g1,g2⟩:=hd.drop (d.length - (ps.length + 1)) hpd
    rw [he] at g1 g2
    refine ⟨Nat.zero_le _,by rw [List.length_nil,List.length_cons] at *;omega,?_⟩
    have h7:dv.drop (dv.length - ps.length)=(dv.drop (dv.length - (ps.length + 1))).drop 1:=by
     have:dv.length - ps.length=(dv.length - (ps.length + 1)) + 1:=by rw [Nat.sub_add_eq,Nat.sub_add_cancel (Nat.sub_pos_of_lt (hl▸q))]
     rw [this,← List.drop_drop]
    rw [List.nil_append,List.length_nil,Nat.sub_zero,h7,hl] at i3
    rw [List.nil_append,List.length_nil,List.length_cons,Nat.sub_zero,hl]
    revert i3
    exact g1.qCons (Q:=λ ws=>BindR K P ad fz bs' (ps.zip (ws.drop 1))→BindR K P ad fz _ ((p::ps).zip ws)) (zx2 g2) λ h5 h6 i3=>.cons h5 i3
theorem bindL_other {kindOf:Str→Option NameKind}{x:Str}{binds:List (Str × Value)}:∀ {m:Str→Option Value},x∉binds.map (·.1)→bindL kindOf binds m x=m x:=by
 induction binds with
 | nil=>exact λ _=>rfl
 | cons p r ih=>
  intro m h
  unfold bindL
  rw [ih (λ q=>h (List.mem_cons_of_mem _ q))]
  by_cases k:kindOf p.1=some .local
  ·rw [if_pos k];exact if_neg λ q=>h (by rw [q];exact List.mem_cons_self ..)
  ·rw [if_neg k]
theorem bindC_other {kindOf:Str→Option NameKind}{x:Str}{binds:List (Str × Value)}:∀ {m:Str→Option Value},x∉binds.map (·.1)→bindC kindOf binds m x=m x:=by
 induction binds with
 | nil=>exact λ _=>rfl
 | cons p r ih=>
  intro m h
  unfold bindC
  rw [ih (λ q=>h (List.mem_cons_of_mem _ q))]
  by_cases k:kindOf p.1=some .local
  ·rw [if_pos k]
  ·rw [if_neg k];exact if_neg λ q=>h (by rw [q];exact List.mem_cons_self ..)
theorem bind_get {kindOf:Str→Option NameKind}{x:Str}{v:Value}{binds:List (Str × Value)}:∀ {m:Str→Option Value},(binds.map (·.1)).Nodup→binds.lookup x=some v →
  (kindOf x=some .local→bindL kindOf binds m x=some v)∧(kindOf x≠some .local→bindC kindOf binds m x=some v):=by
 induction binds with
 | nil=>exact λ _ e=>nomatch e
 | cons p r ih=>
  intro m nd e
  obtain ⟨n,u⟩:=p
  have nd':=List.nodup_cons.mp nd
  rw [List.lookup_cons] at e
  by_cases q:x=n
  ·rw [← q] at nd' ⊢
   rw [q,beq_self_eq_true] at e
   rw [← Option.some.inj e]
   refine ⟨λ k=>?_,λ k=>?_⟩
   ·unfold bindL
    rw [bindL_other nd'.1,if_pos k]
    exact if_pos rfl
   ·unfold bindC
    rw [bindC_other nd'.1,if_neg k]
    exact if_pos rfl
  ·rw [beq_eq_false_iff_ne.mpr q] at e
   exact ⟨λ k=>by unfold bindL;exact (ih nd'.2 e).1 k,λ k=>by unfold bindC;exact (ih nd'.2 e).2 k⟩
inductive codeHdIn (K:Frag) (c P:Addr):Prop
 | mk (o vs file tf flags tg inF text tt):K.lookup c=some o→o.cls=.type "code" → o.data=.fields vs→vs[11]? = some (.ref P)→vs.getD 11 .none=.ref P→vs.getD 18 .none=.str file tf →
  vs.getD 7 .none=.int flags tg→vs.getD 9 .none=.bool inF→vs.getD 10 .none=.int text tt→c≠P→codeHdIn K c P
theorem codeHd_of {h:Heap}{c P:Addr}(X:K.In h) (x:codeHdIn K c P):CodeHd h c P:=by
 obtain ⟨o,vs,file,tf,flags,tg,inF,text,tt,e,e1,e2,e3,e4,e5,e6,e7,e8,e9⟩:=x
 exact ⟨o,vs,file,tf,flags,tg,inF,text,tt,X _ _ e,e1,e2,e3,e4,e5,e6,e7,e8,e9⟩
inductive FnEx (K:Frag) (P:Params) (a:Nat) (fd:Fn):Prop
 | mk (name qual params dV kV doc pm an cdv ct oc od osl dv):K.lookup a=some ⟨oc,od,.func (fnX name qual params fd.body fd.scope [] dV kV doc pm an cdv ct),osl⟩→codeIn K cdv qual=true→VRs K P [] [] fd.dfl dv→(∀ i,zxe fd.scope=some i→∃ c₀,cdv=.ref c₀∧codeHdIn K c₀ i.P∧(qual ++ ".<locals>.") ++ "<lambda>" = i.q)→(∀ vs:List Value,vs.length≤fd.params.length→fd.params.length≤vs.length + dv.length→∀ S,peek K S (bindArgs (fnX name qual params fd.body fd.scope [] dV kV doc pm an cdv ct) ⟨vs,[]⟩)=some (fd.params.zip (vs++dv.drop (dv.length - (fd.params.length - vs.length)))))→FnEx K P a fd
structure zqw (K:Frag) (P:Params) (a:Nat) (fd:Fn):Prop where
 ex:FnEx K P a fd
 pd:zqc fd.dfl=true
 co:fd.scope.isCoroutine=false
 gen:fd.scope.isGenerator=false
 kind:fd.scope.kind=.function
 nd:fd.params.Nodup
 loc:(fd.params.all λ y=>fd.scope.names.lookup y == some .local || fd.scope.names.lookup y == some .cell)=true
 cel:(∀ n,cellsFrom n fd.scope.names []=[])∨∃ x,∀ n,cellsFrom n fd.scope.names []=[(x,n)]
noncomputable def zkv (prog:Program) (w:World) (RX:Cx→Led→Int→Value→Shared→Prop):Prop:=
 ∀ (c c':Cx) (m:Str→Option Value),c'.og=c.og→c'.base=c.base→c'.outer=c.env::c.outer→(∃ A,c'.A=Around.deeper A c'.env∧A.frames=some (c.env::c.outer))→Fr c.h₀ c.L c'.h₀ m→c'.h₀.get? c'.L=none→∀ fz i e s,RX c' fz i e s →
  wpAny (model prog w) c'.A (leaving c'.env e) (λ _ s''=>RX c fz i e s''∧s''.heap.Ns c.L m) (λ e' s''=>RX c fz i e' s''∧s''.heap.Ns c.L m) s
inductive OkM (U:SubP) (K:Frag) (P:Params) (ti:List TabI) (fr:Led) (c:Cx) (ad:List Ad) (fz:Led) (m:Str→Option Value) (a:AV) (σ:St) (v:Value) (s:Shared):Prop
 | pk (ad':List Ad) (own tb fz':Led):Pre ad ad'→fz⊆fz'→Inv U K P ti fr c σ ad' own tb fz' m s→VR K P ad' fz' a v→OkM U K P ti fr c ad fz m a σ v s
theorem OkM.toP {P:Params}{a:AV}{v:Value}(h:OkM U K P ti fr c ad fz m a σ v s):OkP U K P ti fr c ad fz (VR K P) a σ v s:=
 h.casesOn λ _ _ _ _ h1 h2 h3 h4=>.pk _ _ _ _ _ h1 h2 h3 h4
noncomputable def VP (U:SubP) (K:Frag) (P:Params) (ti:List TabI) (fr:Led) (RX:Cx→Led→Int→Value→Shared→Prop) (c:Cx) (ad:List Ad) (fz:Led) (m:Str→Option Value) (x:Rs AV):Result→Shared→Prop:=
 Rs.rec (λ a σ r s'=>match r with | .ok (.ret v)=>OkM U K P ti fr c ad fz m a σ v s' | _=>False) (λ i r s'=>match r with | .error e=>RX c (fr++fz) i e s'∧s'.heap.Ns c.L m | _=>False) x
noncomputable def SdV (M:Model) (U:SubP) (K:Frag) (P:Params) (ti:List TabI) (fr:Led) (RX:Cx→Led→Int→Value→Shared→Prop) (c:Cx) (ad:List Ad) (fz:Led) (m:Str→Option Value) (t:Code) (r:Ou AV) (s:Shared):Prop:=
 Option.rec True (λ x=>codeAny M c.A t (VP U K P ti fr RX c ad fz m x) s) r
theorem SdV.of {P:Params}{M:Model}{t:Code}{r:Ou AV}(h:∀ x,r=some x→codeAny M c.A t (VP U K P ti fr RX c ad fz m x) s):SdV M U K P ti fr RX c ad fz m t r s:=by
 cases r with
 | none=>trivial
 | some x=>exact h x rfl
theorem SdV.lft {α:Type}{P:Params}{M:Model}{t:Code}{o:Option α}{k:α→Ou AV}(h:∀ a,o=some a→SdV M U K P ti fr RX c ad fz m t (k a) s):SdV M U K P ti fr RX c ad fz m t (lft o k) s:=by
 cases o with
 | none=>trivial
 | some x=>exact h x rfl
theorem SdV.gd {P:Params}{M:Model}{t:Code}{b:Bool}{r:Ou AV}(h:b=true→SdV M U K P ti fr RX c ad fz m t r s):SdV M U K P ti fr RX c ad fz m t (gd b r) s:=by
 cases b with
 | false=>trivial
 | true=>exact h rfl
theorem SdV.call {P:Params}{M:Model}{f:Value}{vs:List Value}{r:Ou AV}(h:SdV M U K P ti fr RX c ad fz m (.call f ⟨vs,[]⟩) r s):Sd M U K P ti fr RX c ad fz (VR K P) (call f vs []) r s:=by
 cases r with
 | none=>trivial
 | some x=>cases x with
  | ok a σ=>exact wpAny_call (codeAny_mono h λ r s' q=>by
    cases r with
    | error e=>exact q.elim
    | ok f=>cases f<;>first | exact OkM.toP q | exact q)
  | exc i=>exact wpAny_call (codeAny_mono h λ r s' q=>by
    cases r with
    | error e=>exact q.1
    | ok f=>exact q.elim)
theorem zjq {x:Str}{v:Value}{l:List (Str × Value)}:l.lookup x=some v→x∈l.map (·.1):=by
 induction l with
 | nil=>exact λ e=>nomatch e
 | cons p r ih=>
  intro e
  obtain ⟨y,u⟩:=p
  rw [List.lookup_cons] at e
  by_cases q:x=y
  ·rw [q];exact List.mem_cons_self ..
  ·rw [beq_eq_false_iff_ne.mpr q] at e
   exact List.mem_cons_of_mem _ (ih e)
theorem zip_keys {ps:List Str}{vs:List Value}(h:vs.length=ps.length):(ps.zip vs).map (·.1)=ps:=by
 rw [List.map_fst_zip (by omega)]
inductive CellR (names:List (Str × NameKind)) (kindOf:Str→Option NameKind) (binds:List (Str × Value)) (L:Addr):Led→Prop
 | no:cellsFrom (L + 1) names []=[]→CellR names kindOf binds L []
 | one {x o}:cellsFrom (L + 1) names []=[(x,L + 1)]→o.data=.cell (bindC kindOf binds (λ _=>none) x)→CellR names kindOf binds L [(L + 1,o)]
theorem cells_loc {P:Params}{names:List (Str × NameKind)}{kindOf:Str→Option NameKind}{bs:List (Str × AV)}{binds:List (Str × Value)}{L:Addr}{cells:Led}(hk:∀ x,kindOf x=names.lookup x) (hc:CellR names kindOf binds L cells) (hb:BindR K P ad fz bs binds) (hn:(binds.map (·.1)).Nodup)
  (hl:∀ x∈binds.map (·.1),(names.lookup x == some .local || names.lookup x == some .cell)=true) {x:Str}{av:AV}(e:zqn x bs=some av) :
  (names.lookup x=some .local→∃ v,bindL kindOf binds (λ _=>none) x=some v∧VR K P ad (cells++fz) av v) ∧
  (names.lookup x=some .cell∨names.lookup x=some .free→∃ cc co v,(cellsFrom (L + 1) names []).lookup x=some cc∧(cc,co)∈cells++fz∧co.data=.cell (some v)∧VR K P ad (cells++fz) av v):=by
 obtain ⟨v,h1,h2⟩:=hb.look e
 have h2:=h2.mono (.refl (ad:=ad)) (List.subset_append_right cells fz)
 have g:=bind_get (kindOf:=kindOf) (m:=λ _=>none) hn h1
 refine ⟨λ k=>⟨v,g.1 ((hk x).trans k),h2⟩,λ k=>?_⟩
 have k:names.lookup x=some .cell:=k.elim id λ k=>by
  have:=hl x (zjq h1)
  rw [k] at this;exact absurd this (by decide)
 have hs:=cellsFrom_some names (L + 1) [] (.inl k)
 cases hc with
 | no h=>rw [h] at hs;cases hs
 | @one y o h3 h4=>
  have hy:x=y:=by
   rw [h3] at hs
   by_cases q:x=y
   ·exact q
   ·rw [List.lookup_cons,beq_eq_false_iff_ne.mpr q] at hs;cases hs
  refine ⟨L + 1,o,v,by rw [h3,hy];simp,.head _,?_,h2⟩
  rw [h4,← hy,g.2 (λ q=>by rw [hk,k] at q;cases q)]
theorem cells_perm {names:List (Str × NameKind)}{kindOf:Str→Option NameKind}{binds:List (Str × Value)}{L:Addr}{cells own tb fr fz:Led}(hc:CellR names kindOf binds L cells) (nd:((own++(tb++(fr++fz))).map (·.1)).Nodup) (lt:∀ q∈own++(tb++(fr++fz)),q.1 < L) :
  (own++(tb++(fr++(cells++fz)))).Perm (cells++(own++(tb++(fr++fz))))∧((own++(tb++(fr++(cells++fz)))).map (·.1)).Nodup:=by
 cases hc with
 | no h=>exact ⟨.refl _,nd⟩
 | @one x o h1 h2=>
  have pm:(own++(tb++(fr++((L + 1,o)::fz)))).Perm ((L + 1,o)::(own++(tb++(fr++fz)))):=by
   rw [← List.append_assoc,← List.append_assoc,← List.append_assoc,← List.append_assoc]
   exact List.perm_middle
  refine ⟨pm,(pm.map _).nodup_iff.mpr (List.nodup_cons.mpr ⟨λ h=>?_,nd⟩)⟩
  obtain ⟨q,hq,e⟩:=List.mem_map.mp h
  have h3:=lt q hq
  rw [show q.1=L + 1 from e] at h3
  exact Nat.not_lt_of_le (Nat.le_succ L) h3
theorem enterF {n:Nat}{a:Nat}{fd:Fn}{as:List AV}{vs:List Value}{bs:List (Str × AV)}{R':Result→Shared→Prop}(Y:Ok p loose mg mb K c (n + 1))
  (hf:zqw K w.params a fd) (I:Inv U K w.params ti fr c σ ad own tb fz m s) (hv:VRs K w.params ad fz as vs) (hp:zqc as=true) (e1:bindA fd.params as fd.dfl=some bs)
  (hm:∀ c' h₁ tk cells m',c'.og=c.og→c'.base=c.base→c'.outer=c.env::c.outer→c'.A=Around.deeper c.A c'.env→Ok p loose mg mb K c' n→c'.sc=fd.scope→Fr c.h₀ c.L c'.h₀ m →
   Inv U K w.params ti fr c' { σ with loc:=bs } ad own tb (cells++fz) m' { s with heap:=h₁,toks:=tk } →
   wpAny (model prog w) c'.A (execs fd.body c'.env) (λ fl s'=>LeaveK c.h₀ c.L m c'.h₀ R' (match fl with | .ret v=>v | _=>.none) s')
    (λ e s'=>wpAny (model prog w) c'.A (leaving c'.env e) (λ _ s''=>R' (.error e) s'') (λ e' s''=>R' (.error e') s'') s') { s with heap:=h₁,toks:=tk }) :
   codeAny (model prog w) c.A (.call (.ref a) ⟨vs,[]⟩) R' s:=by
 obtain ⟨⟨name,qual,params,dV,kV,doc,pm,an,cdv,ct,oc,od,osl,dv,k1,k2,k3,k5,k4⟩,f2,f3,f4,f5,f6,f7,f8⟩:=hf
 obtain ⟨b1,b2,b3⟩:=bind_rel (k3.mono ⟨ad,rfl⟩ (List.nil_subset fz)) f2 e1 hv hp
 have k4:=k4 vs b1 b2
 have hkeys:(fd.params.zip (vs++dv.drop (dv.length - (fd.params.length - vs.length)))).map (·.1)=fd.params:=zip_keys (by rw [List.length_append,List.length_drop,Nat.sub_sub_self (Nat.sub_le_iff_le_add'.mpr b2),Nat.add_sub_cancel' b1])
 generalize fd.params.zip (vs++dv.drop (dv.length - (fd.params.length - vs.length)))=binds at *
 have hl:∀ x∈binds.map (·.1),(fd.scope.names.lookup x == some .local || fd.scope.names.lookup x == some .cell)=true:=λ x hx=>List.all_eq_true.mp f7 x (hkeys▸hx)
 have hXs:K.In s.heap:=Y.X.keeps I.F.keep
 refine callX_cells (env:=c.env) (name:=name) (qual:=qual) (params:=params) (body:=fd.body) (scope:=fd.scope) Y.B I.F I.N Y.T.nolimit Y.hA rfl Y.kf (hXs _ _ k1) rfl (codeRec_of hXs k2) Y.room
  (kp_binds hXs k4) (kindsX (List.all_eq_true.mpr λ y hy=>hl y.1 (List.mem_map_of_mem hy))) (by rcases f8 with h | ⟨x,h⟩<;>rw [h]<;>simp) (λ g L' h₁ tk cells FG F' N' Y' B' st lt=>?_) f3 f4 f5
 have hcl:CellR fd.scope.names (envOfC qual fd.scope L' a cdv).kindOf binds L' cells:=by
  rcases f8 with h | ⟨x,h⟩
  ·rw [h] at Y';cases Y';exact .no (h _)
  ·rw [h] at Y'
   obtain ⟨o,e,h2⟩:=Y'.one
   rw [e];exact .one (h _) h2
 obtain ⟨pm,nd⟩:=cells_perm hcl I.nd lt
 obtain ⟨mean,T⟩:=Y.top
 exact hm ⟨c.A.deeper (envOfC qual fd.scope L' a cdv),c.A,c.base,g,c.env::c.outer,L',a,qual,fd.scope,cdv,cellsFrom (L' + 1) fd.scope.names [],c.og⟩ h₁ tk cells (bindL (envOfC qual fd.scope L' a cdv).kindOf binds λ _=>none) rfl rfl rfl rfl
  ⟨B',Y.X.keeps st,Y.T.keeps st,Around.frames_deeper Y.hA,Y.hh,Y.dep1,Y.un3,f5,⟨mean,T.keeps st⟩,Y.XB,λ i hi=>(k5 i hi).imp λ _ g=>⟨g.1,codeHd_of (Y.X.keeps st) g.2.1,g.2.2⟩⟩ rfl FG
  ⟨F',λ q hq=>N' q (pm.mem_iff.mp hq),nd,I.ow.mono .refl (List.subset_append_right ..),I.tb.mono (List.subset_append_right ..),λ x av e=>cells_loc (λ _=>rfl) hcl b3 (hkeys▸f6) hl e,I.og⟩
theorem leaveF {R':Result→Shared→Prop}{c':Cx}{cells:Led}{fl σ₂ fl' s'} {av:AV}{v':Value}(I:Inv U K w.params ti fr c σ ad own tb fz m s) (q0:c'.og=c.og) (h:OkP U K w.params ti fr c' ad (cells++fz) (FlR K w.params) fl σ₂ fl' s') (hav:∀ ad fz,FlR K w.params ad fz fl fl'→VR K w.params ad fz av v')
  (hR:OkM U K w.params ti fr c ad fz m av { σ₂ with loc:=σ.loc } v' s'→R' (.ok (.ret v')) s'):LeaveK c.h₀ c.L m c'.h₀ R' v' s':=
 h.casesOn λ _ _ _ _ _ a1 a2 a3 a4=>leaveK_ a3.F a3.N λ F N=>hR (.pk _ _ _ _ a1 (λ _ h=>a2 (List.mem_append_right _ h)) ⟨F,N,a3.nd,a3.ow,a3.tb,I.lo.mono a1 λ _ h=>a2 (List.mem_append_right _ h),a3.og.trans q0⟩ (hav _ _ a4))
noncomputable def fnOut (σ:St) (f:Fl) (σ':St):Ou AV:=Fl.rec (ok .none { σ' with loc:=σ.loc }) none none (λ v=>ok v { σ' with loc:=σ.loc }) f
theorem sd_fnG (hRX:RXm RX) (hlv:zkv prog w RX) {n:Nat}{a:Nat}{fd:Fn}{as:List AV}{vs:List Value}{bs:List (Str × AV)}{x:Rs Fl}(Y:Ok p loose mg mb K c (n + 1))
  (hf:zqw K w.params a fd) (I:Inv U K w.params ti fr c σ ad own tb fz m s) (hv:VRs K w.params ad fz as vs) (hp:zqc as=true) (e1:bindA fd.params as fd.dfl=some bs)
  (run:∀ c' h₁ tk cells m',Ok p loose mg mb K c' n→c'.sc=fd.scope→Inv U K w.params ti fr c' { σ with loc:=bs } ad own tb (cells++fz) m' { s with heap:=h₁,toks:=tk } →
   Sd (model prog w) U K w.params ti fr RX c' ad (cells++fz) (FlR K w.params) (execs fd.body c'.env) (some x) { s with heap:=h₁,toks:=tk }) :
  SdV (model prog w) U K w.params ti fr RX c ad fz m (.call (.ref a) ⟨vs,[]⟩) (bnd (some x) (fnOut σ)) s:=by
 refine SdV.of λ y hy=>enterF Y hf I hv hp e1 λ c' h₁ tk cells m' q0 q1 q2 q3 Y' hsc FG I'=>?_
 have h:=run c' h₁ tk cells m' Y' hsc I'
 cases x with
 | exc i=>
  have hs:fr++fz⊆fr++(cells++fz):=λ q hq=>List.mem_append.mpr ((List.mem_append.mp hq).imp_right λ h=>List.mem_append_right _ h)
  refine wpAny_mono h (λ _ _ h=>h.elim) λ e s' h=>?_
  rw [← Option.some.inj hy]
  exact wpAny_mono (hlv c c' m q0 q1 q2 ⟨c.A,q3,Y.hA⟩ FG (kts_self I'.F) _ i e s' (hRX _ _ _ _ _ _ hs h)) (λ _ _ h=>h) λ _ _ h=>h
 | ok fl σ₂=>
  refine wpAny_mono h (λ fl' s' h=>?_) λ _ _ h=>h.elim
  have h4:∃ ad fz,FlR K w.params ad fz fl fl':=h.casesOn λ _ _ _ _ _ _ _ _ a4=>⟨_,_,a4⟩
  obtain ⟨_,_,a4⟩:=h4
  cases a4 with
  | brk=>exact nn hy
  | cont=>exact nn hy
  | next=>exact leaveF I q0 h (λ _ _ _=>.none) λ h=>Option.some.inj hy▸h
  | ret=>exact leaveF I q0 h (λ _ _ h=>by cases h.inv;assumption) λ h=>Option.some.inj hy▸h
theorem sd_fn (hRX:RXm RX) (hlv:zkv prog w RX) {R:Rec}{n:Nat}{a:Nat}{fd:Fn}{as:List AV}{vs:List Value}(Y:Ok p loose mg mb K c (n + 1)) (hS:∀ c',Ok p loose mg mb K c' n→SS prog w K ti fr U RX R c')
  (hf:zqw K w.params a fd) (I:Inv U K w.params ti fr c σ ad own tb fz m s) (hv:VRs K w.params ad fz as vs) (hp:zqc as=true) :
  SdV (model prog w) U K w.params ti fr RX c ad fz m (.call (.ref a) ⟨vs,[]⟩) (armFn R fd as σ) s:=by
 refine SdV.lft λ bs e1=>?_
 show SdV _ _ _ _ _ _ _ _ _ _ _ _ (bnd (evSs R fd.scope fd.body { σ with loc:=bs }) (fnOut σ)) _
 cases e2:evSs R fd.scope fd.body { σ with loc:=bs } with
 | none=>trivial
 | some x=>
 refine sd_fnG hRX hlv Y hf I hv hp e1 λ c' h₁ tk cells m' Y' hsc I'=>?_
 have:Sd (model prog w) U K w.params ti fr RX c' ad (cells++fz) (FlR K w.params) (execs fd.body c'.env) (evSs R c'.sc fd.body { σ with loc:=bs }) { s with heap:=h₁,toks:=tk }:=sd_ss (RX:=RX) hRX (hS c' Y') fd.body _ _ _ _ _ _ _ I'
 rw [hsc,e2] at this
 exact this
end
end
section
theorem strIn_mem {x:Str}{l:List Str}(h:zxc x l=false):x∉l:=by
 induction l with
 | nil=>exact List.not_mem_nil
 | cons y l ih=>
  have h:cd (sB y x) true (zxc x l)=false:=h
  cases q:sB y x with
  | true=>rw [q] at h;cases h
  | false=>
   rw [q] at h
   exact λ hm=>(List.mem_cons.mp hm).elim (λ e=>zz5.mp q e.symm) (ih h)
theorem zzn {l:List Str}(h:nodS l=true):l.Nodup:=by
 induction l with
 | nil=>exact List.nodup_nil
 | cons x l ih=>
  have h:cd (zxc x l) false (nodS l)=true:=h
  cases q:zxc x l with
  | true=>rw [q] at h;cases h
  | false=>rw [q] at h;exact List.nodup_cons.mpr ⟨strIn_mem q,ih h⟩
theorem lookS_app {α:Type}{x:Str}{l r:List (Str × α)}:zqm x (l++r)=Option.rec (zqm x r) some (zqm x l):=by
 induction l with
 | nil=>rfl
 | cons p l ih=>
  show cd (sB p.1 x) (some p.2) (zqm x (l++r))=Option.rec (zqm x r) some (cd (sB p.1 x) (some p.2) (zqm x l))
  rw [ih]
  cases sB p.1 x<;>rfl
theorem zxv {α:Type}{x:Str}{a:α}{l:List (Str × α)}(e:zqm x l=some a):(x,a)∈l:=by
 induction l with
 | nil=>exact nn e
 | cons p l ih=>exact cd_q e (λ q e=>by rw [← Option.some.inj e,← zqo.mp q];exact List.mem_cons_self ..) λ _ e=>List.mem_cons_of_mem _ (ih e)
theorem lookup_off {x:Str}{l:List (Str × Value)}(h:x∉l.map (·.1)):l.lookup x=none:=by
 induction l with
 | nil=>rfl
 | cons p r ih=>
  obtain ⟨y,u⟩:=p
  rw [List.lookup_cons,beq_eq_false_iff_ne.mpr λ e=>h (by rw [e];exact List.mem_cons_self ..)]
  exact ih λ q=>h (List.mem_cons_of_mem _ q)
theorem rev_lookup {x:Str}{v:Value}{l:List (Str × Value)}:(l.map (·.1)).Nodup→l.lookup x=some v→l.reverse.lookup x=some v:=by
 induction l with
 | nil=>exact λ _ e=>nomatch e
 | cons p r ih=>
  intro nd e
  obtain ⟨y,u⟩:=p
  have nd':=List.nodup_cons.mp nd
  rw [List.reverse_cons,List.lookup_append]
  rw [List.lookup_cons] at e
  by_cases q:x=y
  ·rw [q,beq_self_eq_true] at e
   rw [q,lookup_off (by rw [List.map_reverse];intro h;exact nd'.1 (List.mem_reverse.mp h)),← Option.some.inj e]
   simp
  ·rw [beq_eq_false_iff_ne.mpr q] at e
   rw [ih nd'.2 e];rfl
theorem isFun_eq {k:ScopeKind}(h:isFun k=true):k=.function:=by cases k<;>first | rfl | cases h
theorem lamOk_q {ps:List Str}{sc:Scope}{caps:List (Str × AV)}{Q:Prop}(h:lamOk ps sc caps=true) (k:sc.isCoroutine=false→sc.isGenerator=false→sc.kind=.function→(∀ x∈sc.names,x.2≠.cell)→(∀ x∈ps,sc.names.lookup x=some .local)→(∀ x∈caps,sc.names.lookup x.1=some .free)→ps.Nodup→zxe sc=none→Q):Q:=by
 unfold lamOk at h
 simp only [Bool.and_eq_true,Bool.not_eq_true'] at h
 obtain ⟨⟨⟨⟨⟨⟨⟨k1,k2⟩,k3⟩,k4⟩,k5⟩,k6⟩,k7⟩,k8⟩:=h
 refine k k1 k2 (isFun_eq k3) (λ x hx q=>?_) (λ x hx=>zx5 (List.all_eq_true.mp k5 x hx)) (λ x hx=>isFree_eq (List.all_eq_true.mp k6 x hx)) (zzn k7) ?_
 ·have:=List.all_eq_true.mp k4 x hx
  rw [q] at this;cases this
 ·cases q:zxe sc with
  | none=>rfl
  | some i=>rw [q] at k8;cases k8
section
variable {prog:Program}{w:World}{K:Frag}{ti:List TabI}{fr:Led}{U:SubP}{c:Cx}{RX RN:Cx→Led→Int→Value→Shared→Prop}{O:Out}
 {σ:St}{ad:List Ad}{own tb fz:Led}{m:Str→Option Value}{s:Shared}{p:Program}{loose:List Str}{mg mb:Str→Option Value}
theorem CapR.look {P:Params}{x:Str}{a:AV}{cl:List (Str × Addr)}{caps:List (Str × AV)}(h:CapR K P ad fz cl caps):zqm x caps=some a→∃ cc co v,cl.lookup x=some cc∧(cc,co)∈fz∧co.data=.cell (some v)∧VR K P ad fz a v:=
 CapR.rec (motive_1:=λ _ _ _=>True) (motive_2:=λ _ _ _=>True) (motive_3:=λ cl caps _=>zqm x caps=some a→∃ cc co v,cl.lookup x=some cc∧(cc,co)∈fz∧co.data=.cell (some v)∧VR K P ad fz a v)
  trivial (λ _=>trivial) (λ _ _=>trivial) (λ _ _=>trivial) (λ _ _ _=>trivial) (λ _=>trivial) (λ _=>trivial) (λ _ _=>trivial) (λ _=>trivial) (λ _=>trivial) (λ _=>trivial) (λ _ _ _ _ _=>trivial) (λ _ _=>trivial) (λ _=>trivial) (λ _ _=>trivial) (λ _ _=>trivial) (λ _=>trivial)
  trivial (λ _ _ _ _=>trivial) (λ _ _ _ _ _ _=>trivial) nn (λ h1 h2 h3 h4 _ _ ih e=>cd_q e (λ q e=>⟨_,_,_,zqo.mp q▸h1,h2,h3,.som e h4⟩) λ _ e=>ih e) h
theorem enterL {n:Nat}{a:Addr}{ps:List Str}{b:PySem.Expr}{sc:Scope}{caps:List (Str × AV)}{as:List AV}{vs:List Value}{bs:List (Str × AV)}{R':Result→Shared→Prop}(Y:Ok p loose mg mb K c (n + 1)) (I:Inv U K w.params ti fr c σ ad own tb fz m s) (hf:ILam K w.params ad fz ps b sc caps (.ref a)) (hv:VRs K w.params ad fz as vs) (hp:zqc as=true)
  (hok:lamOk ps sc caps=true) (e1:bindA ps as []=some bs)
  (hm:∀ c' h₁ tk m',c'.og=c.og→c'.base=c.base→c'.outer=c.env::c.outer→c'.A=Around.deeper c.A c'.env→Ok p loose mg mb K c' n→c'.sc=sc→Fr c.h₀ c.L c'.h₀ m →
   Inv U K w.params ti fr c' { σ with loc:=bs++caps } ad own tb fz m' { s with heap:=h₁,toks:=tk } →
   wpAny (model prog w) c'.A (eval b c'.env) (λ v s'=>LeaveK c.h₀ c.L m c'.h₀ R' v s')
    (λ e s'=>wpAny (model prog w) c'.A (leaving c'.env e) (λ _ s''=>R' (.error e) s'') (λ e' s''=>R' (.error e') s'') s') { s with heap:=h₁,toks:=tk }) :
   codeAny (model prog w) c.A (.call (.ref a) ⟨vs,[]⟩) R' s:=by
 refine lamOk_q hok λ k1 k2 k3 k4 k5 k6 k7 k8=>?_
 obtain ⟨h1,h2,h3,h4⟩:=hf
 rename_i name qual params cl pm ctv c₀
 obtain ⟨b1,b2,b3⟩:=bind_rel (VRs.nil (K:=K) (P:=w.params) (ad:=ad) (fz:=fz)) rfl e1 hv hp
 have hlen:vs.length=ps.length:=Nat.le_antisymm b1 b2
 rw [List.drop_nil,List.append_nil] at b3
 have hkeys:(ps.zip vs).map (·.1)=ps:=zip_keys hlen
 obtain ⟨mean,T⟩:=Y.top
 have hcr:s.heap.CodeRec (.ref c₀) qual:=by
  obtain ⟨c₁,o,ws,t,e,hm,hd,hw⟩:=h3
  cases e
  exact ⟨c₀,o,ws,t,rfl,I.mem hm,hd,hw⟩
 refine kla_code (env:=c.env) Y.B I.F Y.X I.N T Y.hA rfl Y.kf (I.inFz h1) hcr Y.room (h2 vs hlen) (λ y hy=>k5 _ (hkeys▸List.mem_map_of_mem hy)) (λ g L' h₁ FG F' N' B' X' T'=>?_) k1 k2 k3 k4
 refine hm ⟨c.A.deeper (envX qual sc L' a (.ref c₀) cl),c.A,c.base,g,c.env::c.outer,L',a,qual,sc,.ref c₀,cl,c.og⟩ h₁ _ (λ y=>(ps.zip vs).reverse.lookup y) rfl rfl rfl rfl ⟨B',X',topRead_of T',Around.frames_deeper Y.hA,Y.hh,Y.dep1,Y.un3,k3,⟨mean,T'⟩,Y.XB,λ i hi=>?_⟩ rfl FG ⟨F',N',I.nd,I.ow,I.tb,?_,I.og⟩
 ·cases k8.symm.trans hi
 ·intro x av e
  have e:=lookS_app.symm.trans e
  cases q:zqm x bs with
  | some a'=>
   rw [q] at e
   obtain ⟨v,g1,g2⟩:=b3.look q
   have hl:=k5 _ (hkeys▸zjq g1)
   exact ⟨λ _=>⟨v,rev_lookup (hkeys.symm▸k7) g1,.som e g2⟩,λ k=>k.elim (λ k=>nomatch hl.symm.trans k) λ k=>nomatch hl.symm.trans k⟩
  | none=>
   rw [q] at e
   exact ⟨λ k=>(nomatch (k6 _ (zxv e)).symm.trans k),λ _=>h4.look e⟩
theorem sd_lam (hRX:RXm RX) (hlv:zkv prog w RX) {R:Rec}{n:Nat}{a:Addr}{l:Lm}{as:List AV}{vs:List Value}(Y:Ok p loose mg mb K c (n + 1)) (hE:∀ c',Ok p loose mg mb K c' n→SE prog w K ti fr U RX R c')
  (I:Inv U K w.params ti fr c σ ad own tb fz m s) (hf:ILam K w.params ad fz l.ps l.b l.sc l.caps (.ref a)) (hv:VRs K w.params ad fz as vs) (hp:zqc as=true) :
  SdV (model prog w) U K w.params ti fr RX c ad fz m (.call (.ref a) ⟨vs,[]⟩) (armLm R l as σ) s:=by
 refine SdV.gd λ hok=>SdV.lft λ bs e1=>SdV.of λ y hy=>enterL Y I hf hv hp hok e1 λ c' h₁ tk m' q0 q1 q2 q3 Y' hsc FG I'=>?_
 have h:Sd (model prog w) U K w.params ti fr RX c' ad fz (VR K w.params) (eval l.b c'.env) (R.E c'.sc l.b { σ with loc:=bs++l.caps }) { s with heap:=h₁,toks:=tk }:=hE c' Y' l.b _ _ _ _ _ _ _ I'
 rw [hsc] at h
 refine bnd_q hy (λ v σ₂ e2 hy=>?_) λ i e2 hy=>?_
 ·rw [e2] at h
  refine wpAny_mono h (λ v' s' h=>?_) λ _ _ h=>h.elim
  refine h.casesOn λ _ _ _ _ _ a1 a2 a3 a4=>?_
  rw [← Option.some.inj hy]
  exact leaveK_ a3.F a3.N λ F N=>.pk _ _ _ _ a1 a2 ⟨F,N,a3.nd,a3.ow,a3.tb,I.lo.mono a1 a2,a3.og.trans q0⟩ a4
 ·rw [e2] at h
  refine wpAny_mono h (λ _ _ h=>h.elim) λ e s' h=>?_
  rw [← hy]
  exact wpAny_mono (hlv c c' m q0 q1 q2 ⟨c.A,q3,Y.hA⟩ FG (kts_self I'.F) _ i e s' h) (λ _ _ h=>h) λ _ _ h=>h
end
end
section
noncomputable abbrev noU:SubP:=⟨λ _ _ _ _=>False,λ _ _ _ _ _ _=>False⟩
section
variable {prog:Program}{w:World}{K:Frag}{ti:List TabI}{fr:Led}{U:SubP}{c:Cx}{RX RN:Cx→Led→Int→Value→Shared→Prop}{O:Out}
 {σ:St}{ad:List Ad}{own tb fz:Led}{m:Str→Option Value}{s:Shared}{p:Program}{loose:List Str}{mg mb:Str→Option Value}
inductive BackR (w:World) (K:Frag) (ti:List TabI) (c:Cx) (fr:Led) (x:Ad) (fz:Led) (m:Str→Option Value) (post:List Tk) (v:AV) (u:Value) (s':Shared):Prop
 | mk (own' tb' fz':Led) (h:fz⊆fz') (k':Nat) (I:Inv noU K w.params ti fr c ⟨[],[.rdr 0 k' (post.map .tk) nmA]⟩ [x] own' tb' fz' m s') (hv:VR K w.params [] fz' v u):BackR w K ti c fr x fz m post v u s'
noncomputable def Blk (prog:Program) (w:World) (K:Frag) (ti:List TabI) (RX:Cx→Led→Int→Value→Shared→Prop) (p:Program) (loose:List Str) (mg mb:Str→Option Value) (D:Nat) (f:Nat) (toks:List Tk) (o:AV ⊕ Int) (post:List Tk):Prop:=
 ∀ (c:Cx) (fr:Led) (x:Ad) (own tb fz:Led) (m:Str→Option Value) (s:Shared) (vs:List Value),Ok p loose mg mb K c D→Inv noU K w.params ti fr c ⟨[],[.rdr 0 0 ((toks++post).map .tk) nmA]⟩ [x] own tb fz m s→VRs K w.params [x] fz (.hnd 0::xtra f) vs →
  match o with
  | .inl v=>codeAny (model prog w) c.A (.call (.ref f) ⟨vs,[]⟩) (λ r s'=>match r with
    | .ok (.ret u)=>BackR w K ti c fr x fz m post v u s'
    | _=>False) s
  | .inr ix=>codeAny (model prog w) c.A (.call (.ref f) ⟨vs,[]⟩) (λ r s'=>match r with | .error e=>RX c (fr++fz) ix e s'∧s'.heap.Ns c.L m | _=>False) s
theorem zqd (l:List Tk):flat (l.map .tk)=l:=by
 induction l with
 | nil=>rfl
 | cons t l ih=>exact congrArg (t::·) ih
theorem VRs.toks {P:Params}{ad':List Ad}{l:List Tk}:∀ {vs},VRs K P ad fz (l.map .tok) vs→VRs K P ad' fz (l.map .tok) vs:=by
 induction l with
 | nil=>exact λ h=>h.qNil .nil
 | cons t l ih=>exact λ h=>h.qCons rfl λ a b=>.cons (a.qTok rfl λ h=>.tok h) (ih b)
theorem isNm_e {nm:AV}(h:isNm nm=true):nm=nmA:=by
 unfold isNm at h
 cases q:nm.fdict? with
 | none=>rw [q] at h;cases h
 | some l=>
  rw [q] at h
  cases q2:one? l with
  | none=>simp only [q2] at h;cases h
  | some x=>
   simp only [q2] at h
   rw [AV.fdict_e q]
   refine zj4 q2 ?_
   rw [zqo.mp h];rfl
theorem VR.nmad {P:Params}{ad':List Ad}{v:Value}(x:VR K P ad fz nmA v):VR K P ad' fz nmA v:=x.qFd rfl λ h=>.fdict h
theorem VR.nm {P:Params}{ad':List Ad}{nm:AV}{v:Value}(h:isNm nm=true) (x:VR K P ad fz nm v):nm=nmA∧VR K P ad' fz nmA v:=⟨isNm_e h,(isNm_e h▸x:VR K P ad fz nmA v).nmad⟩
theorem zOK_tk {z:Nat→Nat}{l:List Tk}:∀ {e p:Nat},zOK z e p (l.map .tk):=by
 induction l with
 | nil=>exact trivial
 | cons _ l ih=>exact ih
theorem isX_q {P:Params}{ad':List Ad}{f:Nat}{r:List AV}{vs:List Value}(hx:isX f r=true) (h:VRs K P ad fz r vs):VRs K P ad' fz (xtra f) vs:=by
 unfold isX at hx
 unfold xtra
 cases q0:rdF f with
 | false=>rw [q0] at hx;cases r with
  | nil=>exact h.qNil .nil
  | cons=>cases hx
 | true=>
  rw [q0] at hx
  cases q:one? r with
  | none=>rw [q] at hx;cases hx
  | some v=>
   rw [q] at hx
   cases q2:v.gref? with
   | none=>simp only [q2] at hx;cases hx
   | some g=>
    simp only [q2] at hx
    have h:=zj4 (Q:=λ r=>VRs K P ad fz r vs→VRs K P ad fz [v] vs) q id h
    have e:v=.gref 729:=(AV.gref_e q2).trans (congrArg AV.gref (Nat.eq_of_beq_eq_true hx))
    rw [e] at h
    exact h.qCons rfl λ a b=>b.qNil (a.qGref rfl (.cons (.gref _) .nil))
theorem zq0 {pre post' e tb fr fz:Led}:(pre++(e++post')++(tb++(fr++fz))).Perm (e++(tb++((pre++(post'++fr))++fz))):=by
 have q1:(pre++(e++post')++(tb++(fr++fz))).Perm ((e++(pre++post'))++(tb++(fr++fz))):=List.Perm.append_right _ (by
  rw [← List.append_assoc,← List.append_assoc]
  exact List.Perm.append_right _ List.perm_append_comm)
 refine q1.trans ?_
 rw [List.append_assoc]
 refine List.Perm.append_left _ ?_
 have q2:((pre++post')++(tb++(fr++fz))).Perm (tb++((pre++post')++(fr++fz))):=by
  rw [← List.append_assoc (pre++post'),← List.append_assoc tb]
  exact List.Perm.append_right _ List.perm_append_comm
 exact q2.trans (.of_eq (by rw [List.append_assoc,List.append_assoc,List.append_assoc]))
theorem sub_notk {pre' post'':List Item}{f':Nat}{hd':Tk}{tl'':List Tk}{o':AV ⊕ Int}{l:List Tk}{Q:Prop}(q:l.map Item.tk=pre'++Item.sub f' hd' tl'' o'::post''):Q:=by
 have:Item.sub f' hd' tl'' o'∈l.map Item.tk:=by rw [q];simp
 obtain ⟨z,_,hz⟩:=List.mem_map.mp this
 exact Item.noConfusion hz
theorem blk_ar {n T F e k':Nat}(h1:T + 1 + F=n - e) (h2:e≤n) (h3:F=n - (e + k')) (h4:e + k'≤n):e + (T + 1)=e + k':=by omega
theorem blk_back {P:Params}{e k k':Nat}{f hd tl o} {post:List Item}{x:Ad}{toks:List Tk}{l:Led}{fz':Led}(a4:flat (.sub f hd tl o::post)=toks.drop (x.z e + k)) (a5:toks.length=x.n) (a7:x.z e + k≤toks.length) (a8:zOK x.z e (x.z e + k) (.sub f hd tl o::post)) (a9:∀ pre g hd' tl' o' post',.sub f hd tl o::post=pre++Item.sub g hd' tl' o'::post'→U.blk g (hd'::tl') o' (flat post'))
  (h:OW noU K P [⟨x.a,x.d,x.t,λ _=>x.z e + k,x.n⟩] fz' ⟨x.a,x.d,x.t,λ _=>x.z e + k,x.n⟩ (.rdr 0 k' ((flat post).map .tk) nmA) l):OW U K P ad fz' x (.rdr (e + 1) 0 post nmA) l:=by
 refine IRdr.casesOn (show IRdr noU K P [⟨x.a,x.d,x.t,λ _=>x.z e + k,x.n⟩] fz' ⟨x.a,x.d,x.t,λ _=>x.z e + k,x.n⟩ 0 k' ((flat post).map .tk) nmA l from h.inv) λ {n2 tvs n toks' vn t1 t2 t3 t4} b1 b2 b3 b4 b5 b6 b7 b8 b9 b10=>?_
 rw [zqd] at b4
 have b5:toks'.length=x.n:=b5
 have b7:(x.z e + k) + k'≤toks'.length:=b7
 have hz:x.z (e + 1)=(x.z e + k) + k':=by
  rw [a8.1]
  refine blk_ar (F:=(flat post).length) (n:=x.n) ?_ (a5▸a7) ?_ (b5▸b7)
  ·have:=congrArg List.length a4
   rw [List.length_drop,a5] at this
   rw [← this]
   show _=((hd::tl)++flat post).length
   rw [List.length_append,List.length_cons]
  ·have:=congrArg List.length b4
   rw [List.length_drop] at this
   rw [this,b5]
 have goal:=OW.rdr (U:=U) (x:=x) (ad:=ad) (e:=e + 1) (k:=0) (rest:=post) (n2:=n2) (t1:=t1) (t2:=t2) (t3:=t3) (t4:=t4) b1 b2 b3.toks (by rw [Nat.add_zero,hz];exact b4) b5 b6 (by rw [Nat.add_zero,hz];exact b7) (by rw [Nat.add_zero];exact a8.2) (λ pre' f' hd' tl'' o' post'' q=>a9 (_::pre') f' hd' tl'' o' post'' (by rw [q];rfl)) b10.nmad
 rw [Nat.add_zero,hz] at goal
 exact goal
theorem Item.sub_e {it:Item}{sb:Sb}(h:it.sub? = some sb):∃ hd tl,it=.sub sb.f hd tl sb.out:=by
 cases it with
 | tk=>cases h
 | sub f hd tl o=>cases h;exact ⟨_,_,rfl⟩
theorem sd_blk {D:Nat}{i:Nat}{q:Rd}{it:Item}{sb:Sb}{post:List Item}{r:List AV}{vs:List Value}(hRX:RXm RX) (hB:∀ f toks o post,U.blk f toks o post→Blk prog w K ti RX p loose mg mb D f toks o post)
  (Y:Ok p loose mg mb K c D) (I:Inv U K w.params ti fr c σ ad own tb fz m s) (hi:zjk σ i=some q) (hr:q.rest=it::post) (hs:it.sub? = some sb) (hx:isX sb.f r=true) (hn:isNm q.nm=true)
  (hv:VRs K w.params ad fz (.hnd i::r) vs) :
  SdV (model prog w) U K w.params ti fr RX c ad fz m (.call (.ref sb.f) ⟨vs,[]⟩) (blkR i q post sb.out σ) s:=by
 obtain ⟨hd,tl,rfl⟩:=Item.sub_e hs
 have hi:=zki hi
 rw [hr,isNm_e hn] at hi
 unfold blkR
 rw [isNm_e hn]
 refine (I.ow.split2 hi).casesOn λ x e₁ pre post' h1 h2 h3 h4=>?_
 refine IRdr.casesOn (motive:=λ e₁ _=>own=pre++(e₁++post')→_) (show IRdr U K w.params ad fz x q.e q.k (.sub sb.f hd tl sb.out::post) nmA e₁ from h2.inv) (λ {n2 tvs n toks vn t1 t2 t3 t4} a1 a2 a3 a4 a5 a6 a7 a8 a9 a10 h3=>?_) h3
 have I₁:Inv noU K w.params ti (pre++(post'++fr)) c ⟨[],[.rdr 0 0 (((hd::tl)++flat post).map .tk) nmA]⟩ [⟨x.a,x.d,x.t,λ _=>x.z q.e + q.k,x.n⟩] _ tb fz m s:=
  ⟨I.F,λ q hq=>I.N q (h3▸zq0.mem_iff.mpr hq),(zq0.map _).nodup_iff.mp (h3▸I.nd),OWs.one (.rdr (n2:=n2) (t1:=t1) (t2:=t2) (t3:=t3) (t4:=t4) (e:=0) (k:=0) a1 a2 a3.toks (by rw [zqd];exact a4) a5 a6 a7 zOK_tk (λ _ _ _ _ _ _ q=>sub_notk q) a10.nmad),I.tb,(λ y a q=>nomatch q),I.og⟩
 have hvs:VRs K w.params [⟨x.a,x.d,x.t,λ _=>x.z q.e + q.k,x.n⟩] fz (.hnd 0::xtra sb.f) vs:=hv.qCons rfl λ g1 g2=>g1.qHnd rfl λ {y} g3=>by
  cases Option.some.inj (h1.symm.trans g3)
  exact .cons (.hnd (x:=⟨x.a,x.d,x.t,λ _=>x.z q.e + q.k,x.n⟩) rfl) (isX_q hx g2)
 have hb:=hB _ _ _ _ (a9 [] sb.f hd tl sb.out post rfl) c (pre++(post'++fr)) _ _ tb fz m s vs Y I₁ hvs
 obtain ⟨f,o⟩:=sb
 cases o with
 | inr ix=>
  refine codeAny_mono hb λ r s' h=>?_
  cases r with
  | error e=>exact ⟨hRX _ _ _ _ _ _ (λ q hq=>(List.mem_append.mp hq).elim (λ h=>List.mem_append_left _ (List.mem_append_right _ (List.mem_append_right _ h))) λ h=>List.mem_append_right _ h) h.1,h.2⟩
  | ok f=>exact h.elim
 | inl v=>
  refine codeAny_mono hb λ r s' h=>?_
  cases r with
  | error e=>exact h.elim
  | ok fl=>
   cases fl with
   | ret u=>
    refine BackR.casesOn h λ own' tb' fz' g1 k' I₂ g2=>?_
    refine I₂.ow.qOne (Q:=λ own'=>Inv noU K w.params ti _ c _ _ own' tb' fz' m s'→_) (λ {own'} ow I₂=>?_) I₂
    exact ⟨ad,pre++(own'++post'),tb',fz',.refl,g1,⟨I₂.F,λ q hq=>I₂.N q (zq0.mem_iff.mp hq),(zq0.map _).nodup_iff.mpr I₂.nd,h4 ad fz' .refl g1 _ _ (blk_back a4 a5 a7 a8 a9 ow),I₂.tb,I.lo.mono .refl g1,I₂.og⟩,g2.mono ⟨ad,rfl⟩ λ _ h=>h⟩
   | _=>exact h.elim
end
end
section
structure zxf (K:Frag) (P:Params) (O:Out):Prop where
 fn:∀ a fd,O.fn a=some fd→zqw K P a fd
 init:∀ a i,O.init a=some i→makesIn K a=true∧findIn K (.ref a) "__init__" = some (some (.ref i))∧isFn K (.ref i)=true
 can:∀ a,O.can a=true→keepIn K (.ref a)=true
 meth:∀ c n f,O.meth c n=some f→plainGet K c n=true∧findIn K (.ref c) n=some (some (.ref f))∧isFn K (.ref f)=true
 rdr:∀ n f,O.meth 637 n=some f→zxc n ["tokens", "at", "named"]=false
noncomputable def RXa (RX:Cx→Led→Int→Value→Shared→Prop):Prop:=∀ (c:Cx) (A:Around) fz i e s,RX { c with A:=A } fz i e s→RX c fz i e s
section
variable {prog:Program}{w:World}{K:Frag}{ti:List TabI}{fr:Led}{U:SubP}{c:Cx}{RX RN:Cx→Led→Int→Value→Shared→Prop}{O:Out}
 {σ:St}{ad:List Ad}{own tb fz:Led}{m:Str→Option Value}{s:Shared}{p:Program}{loose:List Str}{mg mb:Str→Option Value}
noncomputable def SC (prog:Program) (w:World) (K:Frag) (ti:List TabI) (fr:Led) (U:SubP) (RX:Cx→Led→Int→Value→Shared→Prop) (R:Rec) (c:Cx):Prop:=
 ∀ f a as vs σ ad own tb fz m s,Inv U K w.params ti fr c σ ad own tb fz m s→VR K w.params ad fz f (.ref a)→VRs K w.params ad fz as vs→zqc as=true →
  SdV (model prog w) U K w.params ti fr RX c ad fz m (.call (.ref a) ⟨vs,[]⟩) (R.C f as σ) s
noncomputable def PrimOK (prog:Program) (w:World) (K:Frag) (ti:List TabI) (fr:Led) (U:SubP) (RX:Cx→Led→Int→Value→Shared→Prop) (O:Out) (p:Program) (loose:List Str) (mg mb:Str→Option Value) (D:Nat):Prop:=
 ∀ a as r c σ ad own tb fz m s vs,Ok p loose mg mb K c D→Inv U K w.params ti fr c σ ad own tb fz m s→VRs K w.params ad fz as vs→zqc as=true→O.prim a as σ=some r →
  SdV (model prog w) U K w.params ti fr RX c ad fz m (.call (.ref a) ⟨vs,[]⟩) r s
theorem enterI {a i:Nat}{vs:List Value}{R':Result→Shared→Prop}(FC:zxf K w.params O) (X:K.In c.h₀) (I:Inv U K w.params ti fr c σ ad own tb fz m s) (hi:O.init a=some i)
  (hm:∀ x dx h',Inv U K w.params ti fr { c with A:=c.A.under (.builtin "type.__call__" ⟨.ref a::vs,[]⟩) } { σ with ho:=σ.ho++[.inst a []] } (ad++[(Ad.of x dx)]) (own++[(x,instObj a dx),(dx,dictOf [] 0)]) tb fz m { s with heap:=h' } →
   codeAny (model prog w) (c.A.under (.builtin "type.__call__" ⟨.ref a::vs,[]⟩)) (.call (.ref i) ⟨.ref x::vs,[]⟩) (InitBack x R') { s with heap:=h' }):codeAny (model prog w) c.A (.call (.ref a) ⟨vs,[]⟩) R' s:=by
 obtain ⟨f1,f2,f3⟩:=FC.init a i hi
 refine make_K I.F I.N (X.keeps I.F.keep) f1 f2 (beq_iff_eq.mp f3) λ x dx h' F' N' l1 l2=>hm x dx h' ?_
 have I₁:=I.snoc (x:=(Ad.of x dx)) (o:=.inst a []) (e:=[(x,instObj a dx),(dx,dictOf [] 0)]) F' N' (λ q hq r hr=>?_) ?_ (.inst .nil) s.toks
 ·exact ⟨I₁.F,I₁.N,I₁.nd,I₁.ow,I₁.tb,I₁.lo,I₁.og⟩
 ·have:=l1 q hq
  rcases List.mem_cons.mp hr with rfl | hr
  ·exact Nat.ne_of_lt (Nat.lt_trans this l2)
  ·rw [List.mem_singleton.mp hr];exact Nat.ne_of_lt this
 ·exact List.nodup_cons.mpr ⟨λ h=>Nat.ne_of_gt l2 (List.mem_singleton.mp h),List.nodup_cons.mpr ⟨List.not_mem_nil,List.nodup_nil⟩⟩
theorem sd_init (hRXa:RXa RX) {R:Rec}{n a:Nat}{as:List AV}{vs:List Value}(FC:zxf K w.params O) (Y:Ok p loose mg mb K c (n + 1)) (hC:∀ c',Ok p loose mg mb K c' n→SC prog w K ti fr U RX R c')
  (I:Inv U K w.params ti fr c σ ad own tb fz m s) (hv:VRs K w.params ad fz as vs) (hp:zqc as=true):SdV (model prog w) U K w.params ti fr RX c ad fz m (.call (.ref a) ⟨vs,[]⟩) (armNew O R a as σ) s:=by
 have hn:∀ y:Ad,(ad++[y])[σ.ho.length]? = some y:=λ y=>by rw [← I.ow.length];simp
 refine SdV.lft λ i hi=>SdV.of λ y hy=>enterI FC Y.X I hi λ x dx h' I₁=>?_
 have h:=hC { c with A:=c.A.under (.builtin "type.__call__" ⟨.ref a::vs,[]⟩) } ⟨Y.B,Y.X,Y.T,Y.hA,Y.hh,Y.dep1,Y.un1,Y.kf,Y.top,Y.XB,Y.st⟩ _ _ _ _ _ _ _ _ _ _ _ I₁ (.gref i) (.cons (.hnd (hn _)) (hv.mono ⟨_,rfl⟩ λ _ h=>h)) hp
 refine bnd_q hy (λ v σ' e hy=>gd_q hy λ hv hy=>?_) λ j e hy=>?_
 ·rw [e] at h
  refine codeAny_mono h λ r s' g=>?_
  cases r with
  | error e=>exact g.elim
  | ok f=>cases f with
   | ret v=>exact OkM.casesOn g λ ad' own' tb' fz' g1 g2 g3 g4=>⟨g4.qNone hv rfl,Option.some.inj hy▸⟨ad',own',tb',fz',Pre.trans ⟨_,rfl⟩ g1,g2,⟨g3.F,g3.N,g3.nd,g3.ow,g3.tb,I.lo.mono (Pre.trans ⟨_,rfl⟩ g1) g2,g3.og⟩,.hnd (g1.get (hn _))⟩⟩
   | _=>exact g.elim
 ·rw [e] at h
  refine codeAny_mono h λ r s' g=>?_
  cases r with
  | error e=>exact hy▸⟨hRXa c _ _ _ _ _ g.1,g.2⟩
  | ok f=>exact g.elim
theorem sd_armG (hRX:RXm RX) (hRXa:RXa RX) (hlv:zkv prog w RX) {R:Rec}{n D a:Nat}{as:List AV}{vs:List Value}(FC:zxf K w.params O) (Y:Ok p loose mg mb K c (n + 1)) (hD:D≤n + 1)
  (hP:PrimOK prog w K ti fr U RX O p loose mg mb D) (hB:∀ f toks o post,U.blk f toks o post→Blk prog w K ti RX p loose mg mb D f toks o post)
  (hC:∀ c',Ok p loose mg mb K c' n→SC prog w K ti fr U RX R c') (hS:∀ c',Ok p loose mg mb K c' n→SS prog w K ti fr U RX R c') (I:Inv U K w.params ti fr c σ ad own tb fz m s) (hv:VRs K w.params ad fz as vs) (hp:zqc as=true) :
  SdV (model prog w) U K w.params ti fr RX c ad fz m (.call (.ref a) ⟨vs,[]⟩) (armG O R a as σ) s:=by
 unfold armG
 cases q:O.prim a as σ with
 | some r=>exact hP _ _ _ c _ _ _ _ _ _ _ _ (Y.le hD) I hv hp q
 | none=>cases q:blkA a as σ with
  | none=>cases q:O.fn a with
   | some fd=>exact sd_fn hRX hlv Y hS (FC.fn _ _ q) I hv hp
   | none=>exact sd_init hRXa FC Y hC I hv hp
  | some r=>
   cases as with
   | nil=>exact nn q
   | cons h as=>
    refine bd_q q λ i hi q=>bd_q q λ rd hr q=>?_
    cases hl:rd.rest with
    | nil=>rw [hl] at q;exact nn q
    | cons it post=>
     rw [hl] at q
     refine bd_q q λ sb hs q=>gd_q q λ qf q=>gd_q q λ q3 q=>gd_q q λ q4 q=>?_
     rw [← Nat.eq_of_beq_eq_true qf] at q3 ⊢
     rw [AV.hnd_e hi] at hv
     exact Option.some.inj q▸sd_blk hRX hB (Y.le hD) I hr hl hs q3 q4 hv
theorem sd_stepC (hRX:RXm RX) (hRXa:RXa RX) (hlv:zkv prog w RX) {R:Rec}{n D:Nat}(FC:zxf K w.params O) (Y:Ok p loose mg mb K c (n + 1)) (hD:D≤n + 1)
  (hP:PrimOK prog w K ti fr U RX O p loose mg mb D) (hB:∀ f toks o post,U.blk f toks o post→Blk prog w K ti RX p loose mg mb D f toks o post)
  (hC:∀ c',Ok p loose mg mb K c' n→SC prog w K ti fr U RX R c') (hS:∀ c',Ok p loose mg mb K c' n→SS prog w K ti fr U RX R c') (hE:∀ c',Ok p loose mg mb K c' n→SE prog w K ti fr U RX R c') :
  SC prog w K ti fr U RX (step O R) c:=by
 intro f a as vs σ ad own tb fz m s I hf hv hp
 show SdV _ _ _ _ _ _ _ _ _ _ _ _ (stepC O R f as σ) _
 unfold stepC
 cases q:f.gref? with
 | some b=>
  have e:(Value.ref a)=.ref b:=hf.qGref (Q:=λ v=>v=.ref b) q rfl
  rw [e]
  exact sd_armG hRX hRXa hlv FC Y hD hP hB hC hS I hv hp
 | none=>exact SdV.lft λ l q=>sd_lam hRX hlv Y hE I (VR.to (AV.lam_e q) hf) hv hp
end
end
section
section
variable {prog:Program}{w:World}{K:Frag}{ti:List TabI}{fr:Led}{U:SubP}{c:Cx}{RX RN:Cx→Led→Int→Value→Shared→Prop}{O:Out}
 {σ:St}{ad:List Ad}{own tb fz:Led}{m:Str→Option Value}{s:Shared}{p:Program}{loose:List Str}{mg mb:Str→Option Value}
inductive ListR (U:SubP) (K:Frag) (P:Params) (ho:List HO) (ad:List Ad) (own fz:Led) (i:Nat) (l:List AV) (a:Addr):Prop
 | mk (vs:List Value) (n:Nat) (d:Ad) (pre post:Led):VRs K P ad fz l vs→(ad[i]? = some d∧d.a=a)→own=pre++([(a,listOf vs.toArray n)]++post)→(∀ ad' fz',Pre ad ad'→fz⊆fz'→∀ l' vs' n',VRs K P ad' fz' l' vs'→OWs U K P ad' fz' ad (ho.set i (.lst l')) (pre++([(a,listOf vs'.toArray n')]++post)))→ListR U K P ho ad own fz i l a
theorem Inv.listX {i:Nat}{l:List AV}{x:Ad}{P:Params}(I:Inv U K P ti fr c σ ad own tb fz m s) (hi:σ.ho[i]? = some (.lst l)) (hx:ad[i]? = some x):ListR U K P σ.ho ad own fz i l x.a:=
 (I.ow.split2 hi).casesOn λ y e pre post h1 h2 h3 h4=>rfl_of (Q:=λ z=>ListR U K P σ.ho ad own fz i l z.a) (Option.some.inj (h1.symm.trans hx)) (ILst.casesOn (motive:=λ e _=>own=pre++(e++post)→ListR U K P σ.ho ad own fz i l y.a) (show ILst K P ad fz y l e from h2.inv) (λ {vs n} h5 h3=>⟨vs,n,y,pre,post,h5,⟨h1,rfl⟩,h3,λ ad' fz' hp hf l' vs' n' h=>h4 ad' fz' hp hf _ _ (.lst h)⟩) h3)
theorem Inv.list {i:Nat}{l:List AV}{a:Addr}{P:Params}(I:Inv U K P ti fr c σ ad own tb fz m s) (hi:σ.ho[i]? = some (.lst l)) (hv:VR K P ad fz (.hnd i) (.ref a)):ListR U K P σ.ho ad own fz i l a:=
 hv.qHnd (Q:=λ v=>v=.ref a→ListR U K P σ.ho ad own fz i l a) rfl (λ hx e=>Value.ref.inj e▸I.listX hi hx) rfl
theorem len_tup {P:Params}{l:List AV}{vs:List Value}{x n dd sl} {r:AV}(Y:K.In c.h₀) (I:Inv U K P ti fr c σ ad own tb fz m s) (h3:Hd K fz x ⟨.type "tuple",dd,.seq vs.toArray n,sl⟩) (h4:VRs K P ad fz l vs) (e:lenA l=some r):Sd (model prog w) U K P ti fr RX c ad fz (VR K P) (call (.builtin "len") [.ref x] []) (ok r σ) s:=
 gd_q e λ hp e=>gd_q e λ hl e=>len_tuple (zql I Y h3) (by have:=Nat.le_of_ble_eq_true hl;have:=h4.plain hp;simp;omega) (.mk (I.tok _) (by rw [List.size_toArray,h4.plain hp];exact .som e (.int _ _)))
theorem len_lst {P:Params}{i:Nat}{l:List AV}{x:Ad}{r:AV}(I:Inv U K P ti fr c σ ad own tb fz m s) (hi:zkn σ i=some l) (hx:ad[i]? = some x) (e:lenA l=some r):Sd (model prog w) U K P ti fr RX c ad fz (VR K P) (call (.builtin "len") [.ref x.a] []) (ok r σ) s:=
 gd_q e λ hp e=>gd_q e λ hl e=>(I.listX (zjp hi) hx).casesOn λ vs n d pre post g1 g2 g3 g4=>len_list ⟨_,(I.N _ (I.ownMem g3 (.head _))).1,rfl,n,rfl⟩ (by have:=Nat.le_of_ble_eq_true hl;have:=g1.plain hp;simp;omega) (.mk (I.tok _) (by rw [List.size_toArray,g1.plain hp];exact .som e (.int _ _)))
theorem len_rdr {P:Params}{i:Nat}{q:Rd}{x:Ad}(I:Inv U K P ti fr c σ ad own tb fz m s) (hi:zjk σ i=some q) (hx:ad[i]? = some x):Sd (model prog w) U K P ti fr RX c ad fz (VR K P) (call (.builtin "len") [.ref x.t] []) (ok (.rlen i) σ) s:=
 I.rdr hx hi λ {tvs n toks} a2 a3 a4 a5 a6=>by
  have hl:tvs.size=x.n:=by
   have:=a3.plain (zxl toks)
   rwa [List.length_map,Array.length_toList,a5] at this
  refine len_list (items:=tvs) ⟨_,I.mem a2,rfl,n,rfl⟩ (by omega) (.mk (I.tok _) ?_)
  rw [hl]
  exact .rlen _ hx
theorem builtinL_sd {P:Params}{a r:AV}{v:Value}(Y:K.In c.h₀) (I:Inv U K P ti fr c σ ad own tb fz m s) (hv:VR K P ad fz a v) (e:builtinL a σ=some r):Sd (model prog w) U K P ti fr RX c ad fz (VR K P) (call (.builtin "len") [v] []) (ok r σ) s:=
 tr_q e (λ i ei e=>hv.qRtk ei λ hx=>mp_q e λ q hi=>len_rdr I hi hx) λ e=>tr_q e (λ l el e=>hv.qTup el λ h3 h4=>len_tup Y I h3 h4 e) λ e=>bd_q e λ i ei e=>bd_q e λ l hi e=>hv.qHnd ei λ hx=>len_lst I hi hx e
theorem builtinM_sd {P:Params}{a b r:AV}{va vb:Value}(hh:c.A.handled=none) (I:Inv U K P ti fr c σ ad own tb fz m s) (ha:VR K P ad fz a va) (hb:VR K P ad fz b vb) (e:builtinM a b σ=some r):Sd (model prog w) U K P ti fr RX c ad fz (VR K P) (call (.builtin "min") [va,vb] []) (ok r σ) s:=
 bd_q e λ p ep e=>bd_q e λ h eh e=>gd_q e λ hq e=>mp_q e λ t h1=>ha.qOff ep λ {x} ta hx=>hb.qRlast eh λ {y} tb' hx'=>by
  rw [← Nat.eq_of_beq_eq_true hq,hx] at hx'
  cases Option.some.inj hx'
  obtain ⟨toks,tvs,n,k1,k2,k3,k4,k5⟩:=I.place hx h1
  have hlt:=(List.getElem?_eq_some_iff.mp k3).1
  have hlt:=show ¬ ((x.n:Int) - 1 < ((x.z p.2.1 + p.2.2:Nat):Int)) from Int.not_lt.mpr (by rw [k4] at hlt;exact Int.le_sub_one_of_lt (Int.ofNat_lt.mpr hlt))
  refine min_two_ints hh λ h' tk hk=>?_
  rw [if_neg hlt]
  exact .mk ⟨I.F.keeps hk,λ p hp=>⟨hk _ _ (I.N p hp).1,(I.N p hp).2⟩,I.nd,I.ow,I.tb,I.lo,I.og⟩ (.off _ hx)
theorem VRs.qOne {P:Params}{as:List AV}{a:AV}{vs:List Value}{Q:List Value→Prop}(h:VRs K P ad fz as vs) (e:one? as=some a) (hc:conS a=false) (k:∀ {v},VR K P ad fz a v→Q [v]):Q vs:=
 (zj4 (Q:=λ as=>VRs K P ad fz as vs→VRs K P ad fz [a] vs) e id h).qCons hc λ {v vs} h1 h2=>h2.qNil (Q:=λ vs=>Q (v::vs)) (k h1)
theorem zz8 {as:List AV}{a:AV}(e:one? as=some a) (hp:zqc as=true):conS a=false:=zx2 (zj4 (Q:=λ as=>zqc as=true→zqc [a]=true) e id hp)
theorem sd_builtin {P:Params}{b:String}{as:List AV}{vs:List Value}(Y:K.In c.h₀) (hh:c.A.handled=none) (hp:zqc as=true) (I:Inv U K P ti fr c σ ad own tb fz m s) (hv:VRs K P ad fz as vs) :
  Sd (model prog w) U K P ti fr RX c ad fz (VR K P) (call (.builtin b) vs []) (lft (builtinA b as σ) λ v=>ok v σ) s:=by
 refine Sd.lft λ r e=>tr_q e (λ a ea e=>gd_q e λ hb e=>hv.qOne (Q:=λ vs=>Sd (model prog w) U K P ti fr RX c ad fz (VR K P) (call (.builtin b) vs []) (ok r σ) s) ea (zz8 ea hp) λ h=>of_decide_eq_true hb▸builtinL_sd Y I h e) λ e=>bd_q e λ p ep e=>gd_q e λ hb e=>?_
 have hv:=two_q (Q:=λ as=>VRs K P ad fz as vs→VRs K P ad fz [p.1,p.2] vs) ep id hv
 have hp:=two_q (Q:=λ as=>zqc as=true→zqc [p.1,p.2]=true) ep id hp
 have h1:=zx2 hp
 rw [zxi h1] at hp
 exact hv.qCons h1 λ {v vs} g1 g2=>g2.qCons (Q:=λ vs=>Sd (model prog w) U K P ti fr RX c ad fz (VR K P) (call (.builtin b) (v::vs) []) (ok r σ) s) (zx2 hp) λ {u us} g2 g3=>g3.qNil (Q:=λ us=>Sd (model prog w) U K P ti fr RX c ad fz (VR K P) (call (.builtin b) (v::u::us) []) (ok r σ) s) (of_decide_eq_true hb▸builtinM_sd hh I g1 g2 e)
theorem sd_type {P:Params}{b:String}{as:List AV}{vs:List Value}(hp:zqc as=true) (I:Inv U K P ti fr c σ ad own tb fz m s) (hv:VRs K P ad fz as vs) :
  Sd (model prog w) U K P ti fr RX c ad fz (VR K P) (call (.type b) vs []) (lft (typeA b as σ) λ v=>ok v σ) s:=
 Sd.lft λ r e=>bd_q e λ a ea e=>bd_q e λ i ei e=>bd_q e λ l hi e=>gd_q e λ hb e=>gd_q e λ hl e=>hv.qOne (Q:=λ vs=>Sd (model prog w) U K P ti fr RX c ad fz (VR K P) (call (.type b) vs []) (ok r σ) s) ea (zz8 ea hp) λ h=>h.qHnd ei λ {x} hx=>by
  rw [of_decide_eq_true hb,← Option.some.inj e]
  obtain ⟨vs,n,d,pre,post,g1,g2,g3,g4⟩:=I.listX (zjp hi) hx
  refine call_tuple_list (items:=vs.toArray) ⟨_,(I.N _ (I.ownMem g3 (.head _))).1,rfl,n,rfl⟩ (λ h' hk=>?_) (by rw [sizeLine_eq];have:=g1.len;have:=Nat.le_of_ble_eq_true hl;simp;omega)
  have I₁:Inv U K P ti fr c σ ad own tb fz m { s with heap:=h' }:=⟨I.F.keeps hk,λ p hp=>⟨hk _ _ (I.N p hp).1,(I.N p hp).2⟩,I.nd,I.ow,I.tb,I.lo,I.og⟩
  exact .new (λ _ h=>.tail _ h) (I₁.push _) (.tup (.inl (.head _)) (g1.mono .refl λ _ h=>.tail _ h))
theorem canA_q {f:AV}{Q:AV→Prop}(h:canA O f=true) (k1:∀ a,O.can a=true→Q (.gref a)) (k2:∀ ps b sc caps,Q (.lam ps b sc caps)) (k3:∀ s,Q (.blt s)) (k4:∀ s,Q (.typ s)):Q f:=
 AV.casesOn (motive_1:=λ f=>canA O f=true→Q f) f (λ h=>Bool.noConfusion h) (λ _ h=>Bool.noConfusion h) (λ _ h=>Bool.noConfusion h) (λ _ h=>Bool.noConfusion h) (λ _ h=>Bool.noConfusion h) (λ _ h=>Bool.noConfusion h) (λ a h=>k1 a h) (λ s _=>k3 s) (λ s _=>k4 s) (λ _ h=>Bool.noConfusion h) (λ _ h=>Bool.noConfusion h) (λ _ _ h=>Bool.noConfusion h) (λ a b c d _=>k2 a b c d) (λ _ _ _ h=>Bool.noConfusion h) (λ _ h=>Bool.noConfusion h) (λ _ h=>Bool.noConfusion h) (λ _ h=>Bool.noConfusion h) (λ h=>Bool.noConfusion h) h
theorem sd_callA {R:Rec}{f:AV}{vf:Value}{as:List AV}{vs:List Value}(Y:K.In c.h₀) (hh:c.A.handled=none) (hC:SC prog w K ti fr U RX R c) (hc:canA O f=true) (I:Inv U K w.params ti fr c σ ad own tb fz m s) (hf:VR K w.params ad fz f vf) (hv:VRs K w.params ad fz as vs) (hp:zqc as=true) :
  Sd (model prog w) U K w.params ti fr RX c ad fz (VR K w.params) (call vf vs []) (callA R f as σ) s:=
 canA_q (Q:=λ f=>VR K w.params ad fz f vf→Sd (model prog w) U K w.params ti fr RX c ad fz (VR K w.params) (call vf vs []) (callA R f as σ) s) hc (λ a _ hf=>hf.qGref rfl (hC _ _ _ _ _ _ _ _ _ _ _ I (.gref _) hv hp).call)
  (λ ps b sc caps hf=>ILam.casesOn (motive:=λ vf _=>Sd (model prog w) U K w.params ti fr RX c ad fz (VR K w.params) (call vf vs []) (R.C (.lam ps b sc caps) as σ) s) (show ILam K w.params ad fz ps b sc caps vf from hf.inv) λ h1 h2 h3 h4=>(hC _ _ _ _ _ _ _ _ _ _ _ I (.lam h1 h2 h3 h4) hv hp).call)
  (λ b hf=>hf.qBlt rfl (sd_builtin Y hh hp I hv)) (λ b hf=>hf.qTyp rfl (sd_type hp I hv)) hf
theorem Sd.map {β γ δ:Type}{P:Params}{rel:List Ad→Led→γ→δ→Prop}{rel':List Ad→Led→γ→β→Prop}{t:Sem δ}{t':Sem β}{g:β→δ}{r:Ou γ}
  (x:Sd (model prog w) U K P ti fr RX c ad fz rel' t' r s) (h:∀ Q E,wpAny (model prog w) c.A t' (λ v=>Q (g v)) E s→wpAny (model prog w) c.A t Q E s) (hr:∀ ad fz a v,rel' ad fz a v→rel ad fz a (g v)) :
  Sd (model prog w) U K P ti fr RX c ad fz rel t r s:=by
 cases r with
 | none=>trivial
 | some r=>cases r with
  | ok a σ=>exact h _ _ (wpAny_mono x (λ v s' h=>h.imp λ _ _=>hr _ _ _ _) λ _ _ h=>h)
  | exc i=>exact h _ _ x
noncomputable abbrev ArgR (K:Frag) (P:Params) (ad:List Ad) (fz:Led) (as:List AV) (a:Args):Prop:=a.kw=[]∧VRs K P ad fz as a.pos
theorem sd_args (hRX:RXm RX) {R:Rec}(hE:SE prog w K ti fr U RX R c) (f:Value) (pos:Pos) (es:List PySem.Expr) (I:Inv U K w.params ti fr c σ ad own tb fz m s) :
  Sd (model prog w) U K w.params ti fr RX c ad fz (ArgR K w.params) (evalArgs f true (backTo pos (starEach es c.env)) []) (evEs R c.sc es σ) s:=by
 cases es with
 | nil=>exact evalArgs_nil3 (.mk I ⟨rfl,.nil⟩)
 | cons e r=>
  have h:Sd (model prog w) U K w.params ti fr RX c ad fz (VRs K w.params) (spliced (backTo pos (starEach (e::r) c.env))) (evEs R c.sc (e::r) σ) s:=zji (RX:=RX) hRX hE pos (e::r) _ _ _ _ _ _ _ I
  cases q:noStar e with
  | false=>
   have:evEs R c.sc (e::r) σ=none:=by show gd (noStar e) _=none;rw [q];rfl
   rw [this];trivial
  | true=>
   rw [zqe q] at h ⊢
   show Sd _ _ _ _ _ _ _ _ _ _ _ (evalArgs f true ((false,eval e c.env)::backTo pos (starEach r c.env)) []) _ _
   exact h.map (t':=spliced ((false,eval e c.env)::backTo pos (starEach r c.env))) (g:=λ vs=>⟨vs,[]⟩) (λ Q E h=>evalArgs_plain h) λ _ _ _ _ h=>⟨rfl,h⟩
theorem zzo {pos:Pos}{env:Env}{es:List PySem.Expr}(h:es.all noStar=true):(backTo pos (starEach es env)).any (·.1)=false∧(backTo pos (starEach es env)).all (!·.1)=true:=by
 induction es with
 | nil=>exact ⟨rfl,rfl⟩
 | cons e r ih=>
  rw [List.all_cons,Bool.and_eq_true] at h
  obtain ⟨i1,i2⟩:=ih h.2
  rw [zqe h.1]
  show ((false || (backTo pos (starEach r env)).any (·.1))=false∧(true && (backTo pos (starEach r env)).all (!·.1))=true)
  rw [i1,i2];exact ⟨rfl,rfl⟩
noncomputable abbrev KeepR (prog:Program) (w:World) (s:Shared) (vf:Value):Prop:=∃ k,(k=Keeper.frame∨k=Keeper.machine∨k=Keeper.boundFrame)∧Looks (model prog w) s.heap (keeperOf vf) k
theorem zxn {f:AV}{vf:Value}(FC:zxf K w.params O) (Y:K.In c.h₀) (hc:canA O f=true) (I:Inv U K w.params ti fr c σ ad own tb fz m s) (hf:VR K w.params ad fz f vf):KeepR prog w s vf:=
 canA_q (Q:=λ f=>VR K w.params ad fz f vf→KeepR prog w s vf) hc (λ a hc hf=>hf.qGref rfl (keeps_K (FC.can a hc) _ (Y.keeps I.F.keep)))
  (λ ps b sc caps hf=>ILam.casesOn (motive:=λ vf _=>KeepR prog w s vf) (show ILam K w.params ad fz ps b sc caps vf from hf.inv) λ h1 _ _ _=>⟨.frame,.inl rfl,(Looks.ld (part:=none) (I.mem h1)).andThen .now⟩)
  (λ b hf=>hf.qBlt (Q:=λ vf=>KeepR prog w s vf) rfl ⟨.machine,.inr (.inl rfl),.of_pure rfl⟩) (λ b hf=>hf.qTyp (Q:=λ vf=>KeepR prog w s vf) rfl ⟨.machine,.inr (.inl rfl),.of_pure rfl⟩) hf
theorem zzw (hRX:RXm RX) {R:Rec}{f:Value}{first:List Value}{pos:Pos}{es:List PySem.Expr}{r:List AV→St→Ou AV}(hE:SE prog w K ti fr U RX R c) (hs:es.all noStar=true)
  (I:Inv U K w.params ti fr c σ ad own tb fz m s)
  (h:∀ as vs σ ad' own tb fz' m s,Pre ad ad'→fz⊆fz'→Inv U K w.params ti fr c σ ad' own tb fz' m s→VRs K w.params ad' fz' as vs →
   (∃ k,(k=Keeper.frame∨k=Keeper.machine∨k=Keeper.boundFrame)∧Looks (model prog w) s.heap (keeperOf f) k)∧Sd (model prog w) U K w.params ti fr RX c ad' fz' (VR K w.params) (call f (first++vs) []) (r as σ) s) :
  Sd (model prog w) U K w.params ti fr RX c ad fz (VR K w.params) (callWith pos f first (backTo pos (starEach es c.env)) []) (bnd (evEs R c.sc es σ) r) s:=by
 unfold callWith
 refine Sd.bnd hRX (Sd.hold (sd_args hRX hE f pos es I)) λ as σ a s₁ ad₁ own₁ tb₁ fz₁ m₁ hp hf I₁ ha=>Sd.stand ?_
 obtain ⟨kw,va⟩:=ha
 obtain ⟨⟨k,hk,L⟩,hc⟩:=h as a.pos σ ad₁ own₁ tb₁ fz₁ m₁ s₁ hp hf I₁ va
 refine Sd.wp (λ Q E h₁=>?_) hc
 simp only [(zzo (pos:=pos) (env:=c.env) hs).1,List.any_nil,Bool.or_false,kw]
 refine wpAny_bind (L.here ?_)
 have tail:∀ {t:Sem Value},wpAny (model prog w) c.A t Q E s₁→wpAny (model prog w) c.A (t >>= λ r=>holding [r] point >>= λ _=>pure r) Q E s₁:=
  λ ht=>wpAny_bind (wpAny_mono ht (λ r s₂ hr=>wpAny_bind (wpAny_holding (wpAny_point (wpAny_pure hr)))) λ _ _ x=>x)
 have marked (mk:Value):wpAny (model prog w) c.A (callMarked mk f (first++a.pos) []) Q E s₁:=by unfold callMarked;exact Calls.wpAny_keep h₁
 rcases hk with rfl | rfl | rfl<;>dsimp only<;>first | exact tail h₁ | (split<;>first | exact tail h₁ | exact tail (marked _))
end
end
section
noncomputable abbrev zk2 (K:Frag) (P:Params) (ad:List Ad) (fz:Led) (c:Cal) (fx:Value × List Value):Prop:=match c with
 | .fn f pre=>VR K P ad fz f fx.1∧VRs K P ad fz pre fx.2∧zqc pre=true
 | .app i=>fx.1=.builtin "list.append" ∧ ∃ a,fx.2=[.ref a]∧VR K P ad fz (.hnd i) (.ref a)
 | .spl x=>fx.1=.builtin "str.split" ∧ ∃ t,fx.2=[.str x t]
section
variable {prog:Program}{w:World}{K:Frag}{ti:List TabI}{fr:Led}{U:SubP}{c:Cx}{RX RN:Cx→Led→Int→Value→Shared→Prop}{O:Out}
 {σ:St}{ad:List Ad}{own tb fz:Led}{m:Str→Option Value}{s:Shared}{p:Program}{loose:List Str}{mg mb:Str→Option Value}
theorem VRs.one {P:Params}{v:AV}{vs:List Value}(h:VRs K P ad fz [v] vs) (hp:zqc [v]=true):∃ u,vs=[u]∧VR K P ad fz v u:=by
 cases h with
 | sp=>cases hp
 | cons a b=>replace b:=b.inv;cases b;exact ⟨_,rfl,a⟩
theorem meth_rdr {k:Nat}{n:Str}{f i:Nat}{q:Rd}{o:AV}{x:Ad}{pl:Sem Bool}(FC:zxf K w.params O) (Y:Ok p loose mg mb K c k) (I:Inv U K w.params ti fr c σ ad own tb fz m s) (ho:VR K w.params ad fz o (.ref x.a)) (hp:zqc [o]=true) (hi:zjk σ i=some q) (hx:ad[i]? = some x) (h1:O.meth 637 n=some f) :
  Sd (model prog w) U K w.params ti fr RX c ad fz (zk2 K w.params) (getMethod (.ref x.a) n pl) (ok (.fn (.gref f) [o]) σ) s:=by
 obtain ⟨e',pre,post,h2,h3,h4⟩:=I.at (zki hi) hx
 refine IRdr.casesOn (motive:=λ e' _=>own=pre++(e'++post)→_) (show IRdr U K w.params ad fz x q.e q.k q.rest q.nm e' from h2.inv) (λ a1 _ _ _ _ _ _ _ _ _ h3=>?_) h3
 obtain ⟨f1,f2,f3⟩:=FC.meth _ _ _ h1
 refine method_inst I.F Y.X (InstAt.of_news I.N (I.inFz a1) (I.ownMem h3 (.head _))) f1 f2 f3 ?_ (.mk I ⟨.gref _,.cons ho .nil,hp⟩)
 have f5:=strIn_mem (FC.rdr _ _ h1)
 have z:∀ y∈(["tokens", "at", "named"]:List Str),sB y n=false:=λ y hy=>zz5.mpr λ e=>f5 (e▸hy)
 simp only [getL,List.find?_cons,zkb,z "tokens" (by simp),z "at" (by simp),z "named" (by simp),List.find?_nil,List.any_cons,List.any_nil]
 rfl
theorem meth_inst {k:Nat}{n:Str}{i:Nat}{q:Nat × List (Str × AV)}{o:AV}{x:Ad}{cal:Cal}{pl:Sem Bool}(FA:zqr K w.params O) (FC:zxf K w.params O) (Y:Ok p loose mg mb K c k) (I:Inv U K w.params ti fr c σ ad own tb fz m s) (ho:VR K w.params ad fz o (.ref x.a)) (hp:zqc [o]=true) (hi:instAt σ i=some q) (hx:ad[i]? = some x) (h:calI O o n q=some cal) :
  Sd (model prog w) U K w.params ti fr RX c ad fz (zk2 K w.params) (getMethod (.ref x.a) n pl) (ok cal σ) s:=by
 obtain ⟨e',pre,post,h2,h3,h4⟩:=I.at (instAt_e hi) hx
 refine IInst.casesOn (motive:=λ e' _=>own=pre++(e'++post)→_) (show IInst K w.params ad fz x q.1 q.2 e' from h2.inv) (λ {es nn} hf h3=>?_) h3
 have J:=InstAt.of_news I.N (I.ownMem h3 (.head _)) (I.ownMem h3 (.tail _ (.head _)))
 unfold calI at h
 cases hg:zqn n q.2 with
 | none=>
  rw [hg] at h
  refine mp_q h λ f' h1=>?_
  obtain ⟨f1,f2,f3⟩:=FC.meth _ _ _ h1
  exact method_inst I.F Y.X J f1 f2 f3 (hf.getN hg) (.mk I ⟨.gref _,.cons ho .nil,hp⟩)
 | some g=>
  rw [hg] at h
  refine gd_q h λ ha h=>sm_q h (hf.getS hg λ v' g1 g2=>?_)
  obtain ⟨f1,f2,f3⟩:=FA.attr _ n ha
  refine method_usual (Y.X.keeps I.F.keep) J (plainGet_of f1).1 (plainGet_of f1).2 f3 rfl ?_
  exact get_inst FA Y I (I.ownMem h3 (.head _)) (I.ownMem h3 (.tail _ (.head _))) ha g1 g2.handed (.mk (I.tok _) ⟨g2,.nil,rfl⟩)
theorem sd_method {k:Nat}{o:AV}{vo:Value}{n:Str}{cal:Cal}{pl:Sem Bool}(FA:zqr K w.params O) (FC:zxf K w.params O) (Y:Ok p loose mg mb K c k) (I:Inv U K w.params ti fr c σ ad own tb fz m s) (ho:VR K w.params ad fz o vo) (h:calA O o n σ=some cal) :
  Sd (model prog w) U K w.params ti fr RX c ad fz (zk2 K w.params) (getMethod vo n pl) (ok cal σ) s:=by
 refine tr_q h (λ x ex h=>ho.qStr ex λ t=>gd_q h λ q h=>sm_q h (sB_q q (GM.split (.mk I ⟨rfl,_,rfl⟩)))) λ h=>bd_q h λ i ei h=>?_
 have hp:zqc [o]=true:=AV.hnd_e ei▸rfl
 have ho2:=ho
 revert ho2
 refine ho.qHnd ei λ {x} hx ho=>?_
 refine tr_q h (λ l hl h=>gd_q h λ q h=>sm_q h ?_) λ h=>tr_q h (λ r hr h=>mp_q h λ f h1=>meth_rdr FC Y I ho hp hr hx h1) λ h=>bd_q h λ q hq h=>meth_inst FA FC Y I ho hp hq hx h
 obtain ⟨vs,n,d,pre,post,g1,g2,g3,g4⟩:=I.listX (zjp hl) hx
 rw [AV.hnd_e ei] at ho
 exact sB_q q (listMethod_K I.N (I.ownMem g3 (.head _)) PySem.F.slot_list_append PySem.F.type_list_append (.mk I ⟨rfl,_,rfl,ho⟩))
theorem strVals (P:Params) (l:List (Str × Tok)):VRs K P ad fz ((l.map (·.1)).map .str) (strValues l):=List.rec .nil (λ p _ ih=>.cons (.str p.1 p.2) ih) l
theorem do_spl {x d:Str}{t u:Tok}{l:List Str}(FA:zqr K w.params O) (I:Inv U K w.params ti fr c σ ad own tb fz m s) (hl:O.split x=some l) (hd:sB d " " = true) (h2:x.length≤1000) :
  Sd (model prog w) U K w.params ti fr RX c ad fz (VR K w.params) (call (.builtin "str.split") [.str x t,.str d u] []) (ok (.hnd σ.ho.length) { σ with ho:=σ.ho++[.lst (l.map .str)] }) s:=by
 refine sB_q hd (splitN1 I.F I.N rfl (λ l' h' k' e F' N'=>?_) (by rw [sizeLine_eq];omega))
 rw [FA.split _ _ hl] at e
 subst e
 exact .pk (ad++[Ad.of s.heap.objs.size 0]) (own++[(s.heap.objs.size,listOf (strValues l').toArray 0)]) tb fz m ⟨_,rfl⟩ (λ _ h=>h)
  (I.snoc (x:=Ad.of s.heap.objs.size 0) (e:=[(s.heap.objs.size,listOf (strValues l').toArray 0)]) F' N' (λ p hp q hq=>by rw [List.mem_singleton.mp hq];exact Nat.ne_of_lt (I.lt p hp)) (by simp) (.lst (strVals _ l')) k') (.hnd (x:=Ad.of s.heap.objs.size 0) (by rw [← I.ow.length];simp))
theorem do_app {i:Nat}{l:List AV}{v:AV}{x:Ad}{u:Value}(I:Inv U K w.params ti fr c σ ad own tb fz m s) (hi:zkn σ i=some l) (hx:ad[i]? = some x) (hl:wtA l≤100000) (g:VR K w.params ad fz v u) :
  Sd (model prog w) U K w.params ti fr RX c ad fz (VR K w.params) (call (.builtin "list.append") [.ref x.a,u] []) (ok .none { σ with ho:=σ.ho.set i (.lst (l++[v])) }) s:=by
 obtain ⟨vs,n,d,pre,post,k1,k2,k3,k4⟩:=I.listX (zjp hi) hx
 have hlen:=Nat.le_trans k1.len hl
 have N:=I.N
 have nd:=I.nd
 have e1:∀ o,pre++([(x.a,o)]++post)++(tb++(fr++fz))=pre++(x.a,o)::(post++(tb++(fr++fz))):=λ o=>by simp
 rw [k3,e1] at N nd
 refine append_K I.F N (upd_of nd) (λ h' F' N'=>?_) (by rw [sizeLine_eq,List.size_toArray];omega)
 have hpush:vs.toArray.push u=(vs++[u]).toArray:=by simp
 rw [hpush,← e1] at N'
 exact .mk ⟨F',N',by rw [e1];simpa using nd,k4 ad fz .refl (λ _ h=>h) (l++[v]) (vs++[u]) (n + 1) (k1.append (.cons g .nil)),I.tb,I.lo,I.og⟩ .none
theorem sd_doCal {R:Rec}{cal:Cal}{fx:Value × List Value}{as:List AV}{vs:List Value}(FA:zqr K w.params O) (Y:K.In c.h₀) (hh:c.A.handled=none) (hC:SC prog w K ti fr U RX R c) (hc:canC O cal=true) (I:Inv U K w.params ti fr c σ ad own tb fz m s) (hf:zk2 K w.params ad fz cal fx) (hv:VRs K w.params ad fz as vs) (hp:zqc as=true) :
  Sd (model prog w) U K w.params ti fr RX c ad fz (VR K w.params) (call fx.1 (fx.2++vs) []) (doCal O R cal as σ) s:=by
 obtain ⟨f,first⟩:=fx
 cases cal with
 | fn f pre=>
  obtain ⟨h1,h2,h3⟩:=hf
  exact sd_callA Y hh hC hc I h1 (h2.append hv) (by rw [plainA_app,h3,hp];rfl)
 | spl x=>
  obtain ⟨h1,tx,h2⟩:=hf
  show Sd _ _ _ _ _ _ _ _ _ _ _ (call f (first++vs) []) _ _
  rw [show f=_ from h1,show first=_ from h2]
  refine Sd.bd λ a ea=>Sd.bd λ d ed=>Sd.gd λ q1=>Sd.gd λ q2=>Sd.lft λ l hl=>Sd.gd λ q3=>?_
  exact hv.qOne (Q:=λ vs=>Sd (model prog w) U K w.params ti fr RX c ad fz (VR K w.params) (call (.builtin "str.split") ([.str x tx]++vs) []) _ s) ea (zz8 ea hp) λ h=>h.qStr ed λ u=>do_spl FA I hl q1 (Nat.le_of_ble_eq_true q2)
 | app i=>
  obtain ⟨h1,a,h2,h3⟩:=hf
  show Sd _ _ _ _ _ _ _ _ _ _ _ (call f (first++vs) []) _ _
  rw [show f=_ from h1,show first=_ from h2]
  refine Sd.bd λ l hi=>Sd.bd λ v ev=>Sd.gd λ q=>?_
  refine h3.qHnd (Q:=λ u=>u=Value.ref a→_) rfl (λ {x} hx e=>?_) rfl
  rw [← e]
  exact hv.qOne (Q:=λ vs=>Sd (model prog w) U K w.params ti fr RX c ad fz (VR K w.params) (call (.builtin "list.append") ([.ref x.a]++vs) []) _ s) ev (zz8 ev hp) λ h=>do_app I hi hx (Nat.le_of_ble_eq_true q) h
theorem viewC_name {x:Str}{q:Pos}{as:List PySem.Expr}{ps:Pos}:viewC (.Name x q) as ps=cd (as.all noStar) (.fn (.Name x q) as) .no:=rfl
theorem viewC_att {o:PySem.Expr}{n:Str}{ap:Pos}{as:List PySem.Expr}{ps:Pos}:viewC (.Attribute o n ap) as ps=cd (zjg o && Nat.beq ap.endLine ps.line && Nat.ble as.length 8 && as.all noStar) (.meth o n as) .no:=rfl
theorem zk2.mono {ad':List Ad}{fz':Led}{cal:Cal}{fx:Value × List Value}{P:Params}(hp:Pre ad ad') (hf:fz⊆fz') (h:zk2 K P ad fz cal fx):zk2 K P ad' fz' cal fx:=by
 cases cal with
 | fn f pre=>exact ⟨h.1.mono hp hf,h.2.1.mono hp hf,h.2.2⟩
 | app i=>exact h.imp_right λ h=>h.imp λ _=>And.imp_right λ h=>h.mono hp hf
 | spl x=>exact h
theorem zk2.keeps {cal:Cal}{fx:Value × List Value}(FC:zxf K w.params O) (Y:K.In c.h₀) (hc:canC O cal=true) (I:Inv U K w.params ti fr c σ ad own tb fz m s) (hm:zk2 K w.params ad fz cal fx):KeepR prog w s fx.1:=by
 cases cal with
 | fn f pre=>exact zxn FC Y hc I hm.1
 | app i=>exact hm.1▸⟨.machine,.inr (.inl rfl),.of_pure rfl⟩
 | spl x=>exact hm.1▸⟨.machine,.inr (.inl rfl),.of_pure rfl⟩
theorem call_meth (hRX:RXm RX) {R:Rec}{k:Nat}{o:PySem.Expr}{n:Str}{ap:Pos}{as:List PySem.Expr}{ps:Pos}(FA:zqr K w.params O) (FC:zxf K w.params O) (Y:Ok p loose mg mb K c k) (hE:SE prog w K ti fr U RX R c) (hC:SC prog w K ti fr U RX R c) (I:Inv U K w.params ti fr c σ ad own tb fz m s)
  (b1:zjg o=true) (b2:ap.endLine=ps.line) (b3:as.length≤8) (hs:as.all noStar=true):Sd (model prog w) U K w.params ti fr RX c ad fz (VR K w.params) (eval (.Call (.Attribute o n ap) as [] ps) c.env) (armMeth O R c.sc o n as σ) s:=by
 rw [arm_eval_Call,zzh b1]
 have hform:methodCallForm (as.length + ([]:List Keyword).length) (backTo ps (starEach as c.env)) (backToKw ps (keywordEach [] c.env))=true:=by
  unfold methodCallForm
  rw [(zzo (pos:=ps) (env:=c.env) hs).2]
  show (true && true && decide (as.length + 0 + 0 < 30))=true
  simp;omega
 have hpos:methodCallPos true o c.env ap ps=pure ps:=by
  unfold methodCallPos
  rw [if_pos (by rw [b2];simp)]
 refine Sd.bnd hRX (hE _ _ _ _ _ _ _ _ I) λ ov σ vo s₁ ad₁ own₁ tb₁ fz₁ m₁ _ _ I₁ ho=>Sd.stand (Sd.lft λ cal hcal=>Sd.gd λ hc=>?_)
 unfold methodCall
 rw [hform]
 refine Sd.seq hRX (Sd.hold (sd_method (pl:=(do return (← importBound o c.env).getD true)) FA FC Y I₁ ho hcal)) λ fx s₂ ad₂ own₂ tb₂ fz₂ m₂ _ _ I₂ hm=>?_
 obtain ⟨fv,first⟩:=fx
 dsimp only
 rw [hpos]
 refine Sd.wp (λ Q E h=>wpAny_bind (wpAny_pure h)) ?_
 exact zzw (f:=fv) (first:=first) hRX hE hs I₂ λ as vs σ ad₃ own₃ tb₃ fz₃ m₃ s₃ hp hfz I₃ hv=>⟨zk2.keeps (fx:=(fv,first)) FC Y.X hc I₃ (hm.mono hp hfz),Sd.gd λ hpl=>sd_doCal (fx:=(fv,first)) FA Y.X Y.hh hC hc I₃ (hm.mono hp hfz) hv hpl⟩
theorem sd_call (hRX:RXm RX) {R:Rec}{k:Nat}(FA:zqr K w.params O) (FC:zxf K w.params O) (Y:Ok p loose mg mb K c k) (hE:SE prog w K ti fr U RX R c) (hC:SC prog w K ti fr U RX R c)
  (f:PySem.Expr) (as:List PySem.Expr) (ks:List Keyword) (ps:Pos) (I:Inv U K w.params ti fr c σ ad own tb fz m s) :
  Sd (model prog w) U K w.params ti fr RX c ad fz (VR K w.params) (eval (.Call f as ks ps) c.env) (zke O R c.sc (.Call f as ks ps) σ) s:=by
 cases ks with
 | cons=>trivial
 | nil=>
 show Sd _ _ _ _ _ _ _ _ _ _ _ _ (stepV O R c.sc (viewC f as ps) σ) _
 cases f with
 | Name x q=>
  rw [viewC_name,zz4]
  refine Sd.gd λ hs=>?_
  rw [arm_eval_Call_Name']
  refine Sd.bnd hRX (hE _ _ _ _ _ _ _ _ I) λ fv σ vf s₁ ad₁ own₁ tb₁ fz₁ m₁ _ _ I₁ hf=>Sd.gd λ hc=>?_
  exact zzw hRX hE hs I₁ λ as vs σ ad₂ own₂ tb₂ fz₂ m₂ s₂ hp hfz I₂ hv=>⟨zxn FC Y.X hc I₂ (hf.mono hp hfz),Sd.gd λ hpl=>sd_callA Y.X Y.hh hC hc I₂ (hf.mono hp hfz) hv hpl⟩
 | Attribute o n ap=>
  rw [viewC_att,zz4]
  refine Sd.gd λ hb=>?_
  simp only [Bool.and_eq_true] at hb
  exact call_meth hRX FA FC Y hE hC I hb.1.1.1 (Nat.eq_of_beq_eq_true hb.1.1.2) (Nat.le_of_ble_eq_true hb.1.2) hb.2
 | _=>trivial
end
end
section
theorem lookup_zip:∀ {ps:List Str}{vs:List Value},vs.length=ps.length→ps.Nodup→(ps.filterMap λ n=>((ps.zip vs).lookup n).map (n,·))=ps.zip vs:=by
 intro ps vs h nd
 have key:∀ (qs:List Str) (ws:List Value),ws.length=qs.length→qs.Nodup→∀ pre:List (Str × Value),(∀ q∈qs,pre.lookup q=none)→(qs.filterMap λ n=>((pre++qs.zip ws).lookup n).map (n,·))=qs.zip ws:=by
  intro qs
  induction qs with
  | nil=>intros;rfl
  | cons q qs ih=>
   intro ws hl hn pre hp
   cases ws with
   | nil=>cases hl
   | cons w ws=>
    have hn':=List.nodup_cons.mp hn
    have e1:(pre++(q::qs).zip (w::ws)).lookup q=some w:=by
     rw [List.lookup_append,hp q (List.mem_cons_self ..)]
     simp [List.lookup_cons]
    rw [List.filterMap_cons,e1]
    simp only [Option.map_some,List.zip_cons_cons]
    congr 1
    have:=ih ws (by simpa using hl) hn'.2 (pre++[(q,w)]) (λ x hx=>by
     rw [List.lookup_append,hp x (List.mem_cons_of_mem _ hx)]
     have:(x == q)=false:=beq_eq_false_iff_ne.mpr λ e=>hn'.1 (e▸hx)
     simp [List.lookup_cons,this])
    rw [List.append_assoc] at this
    exact this
 exact key ps vs h nd [] (λ _ _=>rfl)
theorem zxu {fd:FuncData}{as:List Arg}{vs:List Value}(hp:fd.params=⟨[],as,none,[],[],none,[]⟩) (hd:fd.defaults=.none) (hl:vs.length=as.length) (nd:(as.map (·.arg)).Nodup):bindArgs fd ⟨vs,[]⟩=pure ((as.map (·.arg)).zip vs):=by
 unfold bindArgs
 rw [hp,hd]
 have h0:seqItems? Value.none=pure none:=rfl
 have hn:¬ ((vs.length > (List.map (λ x=>x.arg) as).length && (none:Option Arg).isNone)=true):=by simp;omega
 simp only [h0,pure_bind,List.nil_append,List.map_nil,List.forIn_nil,List.append_nil,Option.getD_none,hn,if_false]
 have hl':vs.length=(as.map (·.arg)).length:=by simpa using hl
 have hs:∀ n∈as.map (·.arg),(((as.map (·.arg)).zip vs).lookup n).isNone=false:=λ n hn=>by
  have:=lookup_zip hl' nd
  have hm:n∈((as.map (·.arg)).zip vs).map (·.1):=by rw [List.map_fst_zip (by omega)];exact hn
  obtain ⟨p,hp,rfl⟩:=List.mem_map.mp hm
  rw [Option.isNone_eq_false_iff]
  rw [← this] at hp
  obtain ⟨x,hx,e⟩:=List.mem_filterMap.mp hp
  obtain ⟨v,e1,rfl⟩:=Option.map_eq_some_iff.mp e
  rw [e1];rfl
 have hm:∀ k,(List.filter (λ n=>(List.lookup n ((List.map (λ x=>x.arg) as).zip vs)).isNone) (List.take k (List.map (λ x=>x.arg) as)))=[]:=λ k=>by
  rw [List.filter_eq_nil_iff]
  intro n hn
  rw [hs n (List.mem_of_mem_take hn)]
  decide
 simp only [Bool.false_eq_true,if_false,hm,List.isEmpty_nil,Bool.not_true,List.drop_nil,List.zip_nil_right,List.forIn_nil,pure_bind]
 rw [lookup_zip hl' nd]
theorem perm_two (X:Led) (a b:Addr × Obj) (fz:Led):(X++(a::b::fz)).Perm (a::b::(X++fz)):=List.perm_middle.trans (.cons _ List.perm_middle)
noncomputable abbrev clF (env:Env) (y:Str × NameKind) (cs:List (Str × Addr)):Sem (ForInStep (List (Str × Addr))):=do
 if y.2 == .free then let a ← cellOf env y.1;pure (ForInStep.yield ((y.1,a)::cs)) else pure (ForInStep.yield cs)
theorem cl_no {env:Env}{l:List (Str × NameKind)}(h:zzg l=[]) {cs:List (Str × Addr)}:(forIn l cs (clF env):Sem (List (Str × Addr)))=pure cs:=by
 induction l with
 | nil=>rfl
 | cons p r ih=>
  obtain ⟨y,k⟩:=p
  rw [List.forIn_cons]
  have h:cd (NameKind.fre k) (y::zzg r) (zzg r)=[]:=h
  cases k with
  | free=>cases h
  | _=>exact ih h
theorem cl_one {env:Env}{x:Str}{a:Addr}(ha:env.cells.lookup x=some a) {l:List (Str × NameKind)}(h:zzg l=[x]) {cs:List (Str × Addr)}:(forIn l cs (clF env):Sem (List (Str × Addr)))=pure ((x,a)::cs):=by
 induction l with
 | nil=>cases h
 | cons p r ih=>
  obtain ⟨y,k⟩:=p
  rw [List.forIn_cons]
  have h:cd (NameKind.fre k) (y::zzg r) (zzg r)=[x]:=h
  cases k with
  | free=>
   have h1:=List.cons.inj h
   have:cellOf env y=pure a:=by unfold cellOf;rw [show y=x from h1.1,ha]
   show ((cellOf env y >>= λ a=>pure (ForInStep.yield ((y,a)::cs))) >>= _)=_
   rw [this,pure_bind,pure_bind,show y=x from h1.1]
   exact cl_no h1.2
  | _=>exact ih h
theorem closure_of {sc:Scope}{env:Env}{x:Str}{a:Addr}(h:zzg sc.names=[x]) (ha:env.cells.lookup x=some a):closureFor sc env=pure [(x,a)]:=by
 unfold closureFor
 rw [← cl_one ha h]
 simp only [bind_pure]
inductive TabR (fz:Led) (is:List TabI) (l:Led) (i:TabI):Prop
 | mk (pre:Led) (o:Obj) (post:Led):l=pre++(i.P,o)::post→TabOk fz i o→(∀ fz' o',fz⊆fz'→TabOk fz' i o'→Tabs fz' is (pre++(i.P,o')::post))→TabR fz is l i
theorem TabOk.mono {fz fz':Led}{i:TabI}{o:Obj}(hs:fz⊆fz') (a:TabOk fz i o):TabOk fz' i o:=a.imp id λ h1=>h1.imp λ _ h2=>h2.imp λ _ h3=>h3.imp λ _ h4=>h4.imp_right λ h5=>h5.mono hs
theorem tabs_at {fz:Led}{i:TabI}{is:List TabI}{l:Led}(h:Tabs fz is l):i∈is→TabR fz is l i:=by
 induction h with
 | nil=>exact λ h=>nomatch h
 | @cons j o is l a b ih=>
  intro h
  rcases List.mem_cons.mp h with e | h
  ·rw [e];exact ⟨[],o,l,rfl,a,λ fz' o' hs h=>.cons h (b.mono hs)⟩
  ·obtain ⟨pre,o₁,post,h1,h2,h3⟩:=ih h
   exact ⟨(j.P,o)::pre,o₁,post,congrArg (_::·) h1,h2,λ fz' o' hs h=>.cons (a.mono hs) (h3 fz' o' hs h)⟩
section
variable {prog:Program}{w:World}{K:Frag}{ti:List TabI}{fr:Led}{U:SubP}{c:Cx}{RX RN:Cx→Led→Int→Value→Shared→Prop}{O:Out}
 {σ:St}{ad:List Ad}{own tb fz:Led}{m:Str→Option Value}{s:Shared}{p:Program}{loose:List Str}{mg mb:Str→Option Value}
theorem updF_of {d:Addr}{o:Obj}{l2 l1:Led}:((l1++(d,o)::l2).map (·.1)).Nodup→UpdF d o (l1++(d,o)::l2) (λ o'=>l1++(d,o')::l2):=by
 induction l1 with
 | nil=>exact λ h=>.head λ p hp q=>(List.nodup_cons.mp h).1 (List.mem_map.mpr ⟨p,hp,q⟩)
 | cons p l1 ih=>exact λ h=>.tail (λ q=>(List.nodup_cons.mp h).1 (List.mem_map.mpr ⟨(d,o),List.mem_append_right _ (.head _),q.symm⟩)) (ih (List.nodup_cons.mp h).2)
theorem nil_e {α:Type}{l:List α}(h:isNil l=true):l=[]:=by cases l<;>first | rfl | cases h
theorem plainArgs_e {as:Arguments}{args:List Arg}(h:plainArgs as=some args):as=⟨[],args,none,[],[],none,[]⟩:=by
 refine gd_q h λ q h=>?_
 simp only [Bool.and_eq_true,Option.isNone_iff_eq_none] at q
 obtain ⟨⟨⟨⟨⟨q1,q2⟩,q3⟩,q4⟩,q5⟩,q6⟩:=q
 obtain ⟨a1,a2,a3,a4,a5,a6,a7⟩:=as
 rw [show a1=[] from nil_e q1,show a3=none from q2,show a4=[] from nil_e q3,show a5=[] from nil_e q4,show a6=none from q5,show a7=[] from nil_e q6,show a2=args from Option.some.inj h]
theorem perm_lam {own pre post fr fz:Led}{d p q:Addr × Obj}:(own++((pre++d::post)++(fr++(p::q::fz)))).Perm (p::q::((own++pre)++d::(post++(fr++fz)))):=by
 have h:=perm_two (own++((pre++d::post)++fr)) p q fz
 have e:∀ l:Led,own++((pre++d::post)++(fr++l))=own++((pre++d::post)++fr)++l:=λ l=>by rw [List.append_assoc own,List.append_assoc _ fr]
 have e2:(own++pre)++d::(post++(fr++fz))=own++((pre++d::post)++fr)++fz:=by simp
 rw [e,e2];exact h
noncomputable abbrev lamO (mg:Str→Option Value) (qual:Str) (args:List Arg) (b:PySem.Expr) (sc:Scope) (x:Str) (cc c':Addr) (ctv:Value):Obj:=kla_obj "<lambda>" qual ⟨[],args,none,[],[],none,[]⟩ b sc [(x,cc)] ((mg "__name__").getD .none) c' ctv
theorem lam_vr {P:Params}{args:List Arg}{b:PySem.Expr}{sc:Scope}{x:Str}{cc c' f:Addr}{co:Obj}{ctv:Value}{qual:Str}{v:AV}{vv:Value}(c3:nodS (args.map (·.arg))=true) (g2:(cc,co)∈fz) (g3:co.data=.cell (some vv)) (g4:VR K P ad fz v vv) (hm:(f,lamO mg qual args b sc x cc c' ctv)∈fz) (hc:zzk fz (.ref c') qual) :
  VR K P ad fz (.lam (args.map (·.arg)) b sc [(x,v)]) (.ref f):=
 .lam hm (λ vs hl=>zxu rfl rfl (by simpa using hl) (zzn c3)) hc (.cons (by simp [List.lookup_cons]) g2 g3 g4 .nil)
theorem nodup_two {l:Led}{f c':Addr}{o oc:Obj}(nd:(l.map (·.1)).Nodup) (h1:∀ q∈l,q.1 < c') (h2:c' < f):(((f,o)::(c',oc)::l).map (·.1)).Nodup:=by
 refine List.nodup_cons.mpr ⟨λ h=>?_,List.nodup_cons.mpr ⟨λ h=>?_,nd⟩⟩
 ·rcases List.mem_cons.mp h with e | h
  ·exact Nat.ne_of_gt h2 e
  ·obtain ⟨q,hq,e⟩:=List.mem_map.mp h
   exact Nat.ne_of_lt (Nat.lt_trans (h1 q hq) h2) e
 ·obtain ⟨q,hq,e⟩:=List.mem_map.mp h
  exact Nat.ne_of_lt (h1 q hq) e
theorem lt_upd {l1 l2:Led}{d n:Addr}{o o':Obj}(h:∀ q∈l1++(d,o)::l2,q.1 < n):∀ q∈l1++(d,o')::l2,q.1 < n:=λ q hq=>by
 rcases List.mem_append.mp hq with h' | h'
 ·exact h q (List.mem_append_left _ h')
 ·rcases List.mem_cons.mp h' with e | h'
  ·rw [e];exact h (d,o) (List.mem_append_right _ (.head _))
  ·exact h q (List.mem_append_right _ (.tail _ h'))
theorem lam_first {k:Nat}{args:List Arg}{b:PySem.Expr}{sc:Scope}{pos:Pos}{i:TabI}{x:Str}{cc c₀:Addr}{co:Obj}{vv:Value}{v:AV}{pre post:Led}(Y:Ok p loose mg mb K c k) (I:Inv U K w.params ti fr c σ ad own tb fz m s)
  (c1:i.line=pos.line) (c2:i.col=pos.col) (c3:nodS (args.map (·.arg))=true) (s1:c.ccd=.ref c₀) (s2:CodeHd c.h₀ c₀ i.P) (s3:c.env.qual ++ "<lambda>" = i.q) (g2:(cc,co)∈fz) (g3:co.data=.cell (some vv)) (g4:VR K w.params ad fz v vv) (hclo:closureFor sc c.env=pure [(x,cc)])
  (t1:tb=pre++(i.P,tabObj #[])::post) (t3:∀ fz' o',fz⊆fz'→TabOk fz' i o'→Tabs fz' ti (pre++(i.P,o')::post)) :
  Sd (model prog w) U K w.params ti fr RX c ad fz (VR K w.params) (eval (.Lambda ⟨[],args,none,[],[],none,[]⟩ b sc pos) c.env) (ok (.lam (args.map (·.arg)) b sc [(x,v)]) σ) s:=by
 obtain ⟨mean,T⟩:=Y.top
 have N:=I.N
 have nd:=I.nd
 have e1:∀ o fz,own++(pre++(i.P,o)::post++(fr++fz))=(own++pre)++(i.P,o)::(post++(fr++fz)):=λ o fz=>by simp
 rw [t1,e1] at N nd
 refine kla_eval rfl (kla_nest (ps:=#[]) I.F N T s2 s1 (updF_of nd) trivial rfl hclo λ f c' oc vs t ctv h' tk F' N' d1 d2 l1 l2=>?_)
 have hs:fz⊆(f,lamO mg (c.env.qual ++ "<lambda>") args b sc x cc c' ctv)::(c',oc)::fz:=λ _ h=>.tail _ (.tail _ h)
 have hcode:zzk ((f,lamO mg (c.env.qual ++ "<lambda>") args b sc x cc c' ctv)::(c',oc)::fz) (.ref c') (c.env.qual ++ "<lambda>"):=⟨c',oc,vs,t,rfl,.tail _ (.head _),d1,d2⟩
 exact .pk ad own _ _ m .refl hs ⟨F',λ q hq=>N' q (perm_lam.mem_iff.mp hq),(perm_lam.map _).nodup_iff.mpr (nodup_two (by simpa using nd) (lt_upd l1) l2),I.ow.mono .refl hs,t3 _ _ hs (.inr ⟨c',0,0,by rw [c1,c2];rfl,s3▸hcode⟩),I.lo.mono .refl hs,I.og⟩ (lam_vr c3 (hs g2) g3 (g4.mono .refl hs) (.head _) hcode)
theorem lam_again {k:Nat}{args:List Arg}{b:PySem.Expr}{sc:Scope}{pos:Pos}{i:TabI}{x:Str}{cc c₀ c':Addr}{co:Obj}{vv:Value}{v:AV}{t1' t2':Tok}(Y:Ok p loose mg mb K c k) (I:Inv U K w.params ti fr c σ ad own tb fz m s)
  (c1:i.line=pos.line) (c2:i.col=pos.col) (c3:nodS (args.map (·.arg))=true) (s1:c.ccd=.ref c₀) (s2:CodeHd c.h₀ c₀ i.P) (s3:c.env.qual ++ "<lambda>" = i.q) (g2:(cc,co)∈fz) (g3:co.data=.cell (some vv)) (g4:VR K w.params ad fz v vv) (hclo:closureFor sc c.env=pure [(x,cc)])
  (hm:(i.P,tabObj #[.int i.line t1',.int i.col t2',.ref c'])∈own++(tb++(fr++fz))) (h4:zzk fz (.ref c') i.q) :
  Sd (model prog w) U K w.params ti fr RX c ad fz (VR K w.params) (eval (.Lambda ⟨[],args,none,[],[],none,[]⟩ b sc pos) c.env) (ok (.lam (args.map (·.arg)) b sc [(x,v)]) σ) s:=by
 obtain ⟨mean,T⟩:=Y.top
 refine kla_eval rfl (kla_hit (c':=c') I.F I.N T s2 s1 hm trivial ?_ hclo λ f ctv h' tk F' N' l1=>?_)
 ·show codeAmong pos [.int i.line t1',.int i.col t2',.ref c']=_
  unfold codeAmong
  rw [if_pos (by rw [c1,c2];simp)]
 have hs:fz⊆(f,lamO mg (c.env.qual ++ "<lambda>") args b sc x cc c' ctv)::fz:=λ _ h=>.tail _ h
 exact .new hs (I.newOf F' N' l1 tk) (lam_vr c3 (hs g2) g3 (g4.mono .refl hs) (.head _) ((s3▸h4).mono hs))
theorem sd_lambda {R:Rec}{k:Nat}(hti:O.lam=true→∀ sc i,zxe sc=some i→i∈ti) (Y:Ok p loose mg mb K c k) (as:Arguments) (b:PySem.Expr) (sc:Scope) (pos:Pos) (I:Inv U K w.params ti fr c σ ad own tb fz m s) :
  Sd (model prog w) U K w.params ti fr RX c ad fz (VR K w.params) (eval (.Lambda as b sc pos) c.env) (zke O R c.sc (.Lambda as b sc pos) σ) s:=by
 show Sd _ _ _ _ _ _ _ _ _ _ _ _ (armLam O c.sc as b sc pos σ) _
 refine Sd.gd λ hlam=>Sd.bd λ args ha=>Sd.bd λ i hi=>Sd.gd λ hc=>Sd.bd λ x hx=>Sd.gd λ hk=>Sd.lft λ v e=>?_
 rw [plainArgs_e ha]
 simp only [Bool.and_eq_true,decide_eq_true_eq] at hc
 obtain ⟨⟨c1,c2⟩,c3⟩:=hc
 obtain ⟨cc,co,vv,g1,g2,g3,g4⟩:=(I.lo x v e).2 (.inl (isCel_eq hk))
 obtain ⟨c₀,s1,s2,s3⟩:=Y.st i hi
 obtain ⟨pre,o,post,t1,t2,t3⟩:=tabs_at I.tb (hti hlam _ _ hi)
 have hclo:closureFor sc c.env=pure [(x,cc)]:=closure_of (zj4 (Q:=λ l=>l=[x]) hx rfl) g1
 rcases t2 with t2 | ⟨c',t1',t2',t2,h4⟩
 ·rw [t2] at t1
  exact lam_first Y I c1 c2 c3 s1 s2 s3 g2 g3 g4 hclo t1 t3
 ·rw [t2] at t1
  exact lam_again Y I c1 c2 c3 s1 s2 s3 g2 g3 g4 hclo (t1':=t1') (t2':=t2') (by rw [t1];exact List.mem_append_right _ (List.mem_append_left _ (List.mem_append_right _ (.head _)))) h4
end
end
section
section
variable {prog:Program}{w:World}{K:Frag}{ti:List TabI}{fr:Led}{U:SubP}{c:Cx}{RX RN:Cx→Led→Int→Value→Shared→Prop}{O:Out}
 {σ:St}{ad:List Ad}{own tb fz:Led}{m:Str→Option Value}{s:Shared}{p:Program}{loose:List Str}{mg mb:Str→Option Value}
noncomputable def turnF {R:Rec}{sc:Scope}{t:PySem.Expr}{a:List Stmt}(r:List AV) (f:Fl) (σ:St):Ou Fl:=Fl.rec (zjf R sc t a r σ) (ok .next σ) (zjf R sc t a r σ) (λ v=>ok (.ret v) σ) f
theorem evFor_q {R:Rec}{sc:Scope}{t:PySem.Expr}{a:List Stmt}{v:AV}{r:List AV}{σ:St}{x:Rs Fl}{Q:Prop}(e:zjf R sc t a (v::r) σ=some x) (k:∀ σ₁ f σ₂,zks sc t v σ=some σ₁→evSs R sc a σ₁=some (.ok f σ₂)→turnF (R:=R) (sc:=sc) (t:=t) (a:=a) r f σ₂=some x→Q):Q:=by
 refine bd_q e λ σ₁ h1 e=>?_
 cases q:evSs R sc a σ₁ with
 | none=>rw [q] at e;exact nn e
 | some y=>
  rw [q] at e
  cases y with
  | ok f σ₂=>exact k σ₁ f σ₂ h1 q e
  | exc=>exact nn e
theorem evFor_ok {R:Rec}{sc:Scope}{t:PySem.Expr}{a:List Stmt}{l:List AV}:∀ {σ:St}{x:Rs Fl},zjf R sc t a l σ=some x→∃ fl σ',x=.ok fl σ':=by
 induction l with
 | nil=>exact λ e=>sm_q e ⟨_,_,rfl⟩
 | cons v r ih=>
  intro σ x e
  refine evFor_q e λ σ₁ f σ₂ _ _ h=>?_
  cases f with
  | next=>exact ih h
  | cont=>exact ih h
  | brk=>exact sm_q (Q:=λ x=>∃ fl σ',x=Rs.ok fl σ') h ⟨_,_,rfl⟩
  | ret v=>exact sm_q (Q:=λ x=>∃ fl σ',x=Rs.ok fl σ') h ⟨_,_,rfl⟩
theorem Inv.frame {P:Params}{x:Addr × Obj}(I:Inv U K P ti fr c σ ad own tb fz m s) (hx:s.heap.get? x.1=some x.2) (hL:x.1≠c.L) (h0:c.h₀.get? x.1=none) (hn:∀ q∈own++(tb++(fr++fz)),q.1≠x.1):Inv U K P ti (x::fr) c σ ad own tb fz m s:=by
 have pm:(own++(tb++((x::fr)++fz))).Perm (x::(own++(tb++(fr++fz)))):=by
  rw [← List.append_assoc,← List.append_assoc own]
  exact List.perm_middle
 refine ⟨I.F,λ q hq=>?_,(pm.map _).nodup_iff.mpr (List.nodup_cons.mpr ⟨λ h=>?_,I.nd⟩),I.ow,I.tb,I.lo,I.og⟩
 ·rcases List.mem_cons.mp (pm.mem_iff.mp hq) with rfl | h
  ·exact ⟨hx,hL,h0⟩
  ·exact I.N q h
 ·obtain ⟨q,hq,e⟩:=List.mem_map.mp h
  exact hn q hq e
theorem Inv.unframe {P:Params}{x:Addr × Obj}{s':Shared}(I:Inv U K P ti (x::fr) c σ ad own tb fz m s) (hk:∀ b o,b≠x.1→s.heap.get? b=some o→s'.heap.get? b=some o) (hog:(s'.os,s'.gens,s'.drawn)=(s.os,s.gens,s.drawn):=by rfl) :
  Inv U K P ti fr c σ ad own tb fz m s'∧x.1≠c.L∧c.h₀.get? x.1=none∧∀ q∈own++(tb++(fr++fz)),q.1≠x.1:=by
 have pm:(own++(tb++((x::fr)++fz))).Perm (x::(own++(tb++(fr++fz)))):=by
  rw [← List.append_assoc,← List.append_assoc own]
  exact List.perm_middle
 have nd:=List.nodup_cons.mp ((pm.map (·.1)).nodup_iff.mp I.nd)
 have hx:=I.N x (pm.mem_iff.mpr (.head _))
 have hne:∀ q∈own++(tb++(fr++fz)),q.1≠x.1:=λ q hq e=>nd.1 (List.mem_map.mpr ⟨q,hq,e⟩)
 exact ⟨⟨⟨I.F.ns.at' λ o e=>hk _ o (Ne.symm hx.2.1) e,λ b o e=>hk b o (λ q=>nomatch (q▸hx.2.2).symm.trans e) (I.F.keep b o e),I.F.above⟩,λ q hq=>⟨hk _ _ (hne q hq) (I.N q (pm.mem_iff.mpr (.tail _ hq))).1,(I.N q (pm.mem_iff.mpr (.tail _ hq))).2⟩,nd.2,I.ow,I.tb,I.lo,hog.trans I.og⟩,hx.2.1,hx.2.2,hne⟩
theorem VRs.at_plain {P:Params}{l:List AV}{vs:List Value}(h:VRs K P ad fz l vs):∀ {k:Nat}{a:AV},zqc l=true→l[k]? = some a→∃ v,vs[k]? = some v∧VR K P ad fz a v:=
 h.rec1 (M:=λ l vs=>∀ k a,zqc l=true→l[k]? = some a→∃ v,vs[k]? = some v∧VR K P ad fz a v) (λ k a _ e=>by rw [List.getElem?_nil] at e;exact nn e) (λ h _ ih k a hp e=>by
  cases k with
  | zero=>exact ⟨_,rfl,.som e h⟩
  | succ k=>exact ih k a ((zxi h.notSp).symm.trans hp) e) (λ _ _ _ _ _ k a hp _=>zzb hp) _ _
inductive List2R (U:SubP) (K:Frag) (P:Params) (ho:List HO) (ad:List Ad) (own fz:Led) (i:Nat) (l:List AV) (x:Ad):Prop
 | mk (vs:List Value) (n:Nat) (pre post:Led):VRs K P ad fz l vs→own=pre++((x.a,listOf vs.toArray n)::post)→(∀ ad' fz',Pre ad ad'→fz⊆fz'→OWs U K P ad' fz' ad (ho.set i .dead) (pre++post))→List2R U K P ho ad own fz i l x
theorem Inv.list2 {i:Nat}{l:List AV}{x:Ad}{P:Params}(I:Inv U K P ti fr c σ ad own tb fz m s) (hi:σ.ho[i]? = some (.lst l)) (hx:ad[i]? = some x):List2R U K P σ.ho ad own fz i l x:=
 (I.ow.split2 hi).casesOn λ y e pre post h1 h2 h3 h4=>rfl_of (Q:=λ z=>List2R U K P σ.ho ad own fz i l z) (Option.some.inj (h1.symm.trans hx)) (ILst.casesOn (motive:=λ e _=>own=pre++(e++post)→List2R U K P σ.ho ad own fz i l y) (show ILst K P ad fz y l e from h2.inv) (λ {vs n} h5 h3=>⟨vs,n,pre,post,h5,h3,λ ad' fz' hp hf=>h4 ad' fz' hp hf .dead [] .dead⟩) h3)
inductive LoopI (U:SubP) (w:World) (K:Frag) (ti:List TabI) (fr:Led) (c:Cx) (ad:List Ad) (fz:Led) (R:Rec) (itA n:Nat) (itP:Nat→Obj→Prop) (l:List AV) (x:Str) (tp:Pos) (a:List Stmt) (z:Rs Fl) (k:Nat) (s':Shared):Prop
 | mk (i:Nat) (o:Obj) (σᵢ:St) (ad':List Ad) (own' tb' fz':Led) (m':Str→Option Value):k=n + 1 - i→i≤n→itP i o→Pre ad ad'→fz⊆fz'→Inv U K w.params ti ((itA,o)::fr) c σᵢ ad' own' tb' fz' m' s'→zjf R c.sc (.Name x tp) a (l.drop i) σᵢ=some z→LoopI U w K ti fr c ad fz R itA n itP l x tp a z k s'
theorem OkP.unfr {P:Params}{rel:List Ad→Led→Fl→Flow→Prop}{y:Addr × Obj}{f:Fl}{f':Flow}(hp:Pre ad ad) {ad':List Ad}{own' tb' fz':Led}{m':Str→Option Value}(h1:Pre ad ad') (h2:fz⊆fz') (I:Inv U K P ti (y::fr) c σ ad' own' tb' fz' m' s) (h:rel ad' fz' f f'):OkP U K P ti fr c ad fz rel f σ f' s:=
 .pk ad' own' tb' fz' m' h1 h2 (I.unframe (s':=s) λ _ _ _ h=>h).1 h
theorem lt_turn {n i:Nat}(h:i < n):n + 1 - (i + 1) < n + 1 - i:=by omega
theorem sd_loop (hRX:RXm RX) {R:Rec}{k n itA:Nat}{fp:List Addr}{Pv:Nat→Value→Prop}{Sv:Nat→Heap→Prop}{itP:Nat→Obj→Prop}{o₀:Obj}{l:List AV}{x:Str}{tp:Pos}{a:List Stmt}{fl:Fl}{σ₁ σ₂:St}(Y:Ok p loose mg mb K c k) (hS:∀ fr,SS prog w K ti fr U RX R c)
  (W:Walks prog w c.A itA fp [itA] n Pv Sv) (hln:l.length=n)
  (hst:∀ i o σ' ad' own' tb' fz' m' s',itP i o→fz⊆fz'→Inv U K w.params ti ((itA,o)::fr) c σ' ad' own' tb' fz' m' s'→Sv i s'.heap) (hit:∀ i h,Sv i h→∃ o,h.get? itA=some o∧itP i o)
  (hval:∀ i v,i < n→Pv i v→∃ av,l[i]? = some av∧VR K w.params ad fz av v)
  (I:Inv U K w.params ti ((itA,o₀)::fr) c σ₁ ad own tb fz m s) (h0:itP 0 o₀) (he:zjf R c.sc (.Name x tp) a l σ₁=some (.ok fl σ₂)) :
  codeAny (model prog w) c.A (.forLoop (.Name x tp) (.ref itA) a [] c.env) (λ r s'=>match r with
   | .ok f=>OkP U K w.params ti fr c ad fz (FlR K w.params) fl σ₂ f s'
   | .error e=>cameBackBy (model prog w) c.A c.env (λ _ _=>False) e s') s:=by
 refine codeAny_forLoop (LoopI U w K ti fr c ad fz R itA n itP l x tp a (.ok fl σ₂)) (λ k s' hk=>?_) (n + 1)
  ⟨0,o₀,σ₁,ad,own,tb,fz,m,rfl,Nat.zero_le _,h0,.refl,λ _ h=>h,I,he⟩ (λ _=>rfl)
 refine hk.casesOn λ i oi σᵢ ad' own' tb' fz' m' hke hin b0 b1 b2 I' he'=>?_
 have hnot:∀ {h'':Heap},(∀ b o,b∉[itA]→s'.heap.get? b=some o→h''.get? b=some o)→∀ b o,b≠itA→s'.heap.get? b=some o→h''.get? b=some o:=λ hk b o hb e=>hk b o (by simpa using hb) e
 by_cases hlt:i < n
 ·refine W.item i _ _ _ hlt (hst _ _ _ _ _ _ _ _ _ b0 b2 I') λ v h'' tk'' hP hst' hk'=>?_
  obtain ⟨av,hav,hvr⟩:=hval i v hlt hP
  obtain ⟨on,ho1,ho2⟩:=hit _ _ hst'
  have I₃:=I'.unframe (s':={ s' with heap:=h'',toks:=tk'' }) (hnot hk')
  have I₄:=I₃.1.frame (x:=(itA,on)) ho1 I₃.2.1 I₃.2.2.1 I₃.2.2.2
  have hav:=List.getElem?_eq_some_iff.mp hav
  rw [List.drop_eq_getElem_cons hav.1,hav.2] at he'
  refine evFor_q he' λ σ₃ fl' σ₄ q₁ q₂ he'=>?_
  have g:=sd_asName (RX:=RX) (prog:=prog) (w:=w) (t:=.Name x tp) Y.kf I₄ (hvr.mono b1 b2)
  rw [q₁] at g
  refine wpAny_mono g (λ _ s₃ h₃=>?_) λ _ _ h=>h.elim
  refine h₃.casesOn λ ad₃ own₃ tb₃ fz₃ m₃ d1 d2 I₅ _=>?_
  have g2:Sd (model prog w) U K w.params ti ((itA,on)::fr) RX c ad₃ fz₃ (FlR K w.params) (execs a c.env) (evSs R c.sc a σ₃) s₃:=sd_ss (RX:=RX) hRX (hS ((itA,on)::fr)) a _ _ _ _ _ _ _ I₅
  rw [q₂] at g2
  refine wpAny_mono g2 (λ fl'' s₄ h₄=>?_) λ _ _ h=>h.elim
  refine h₄.casesOn λ ad₄ own₄ tb₄ fz₄ m₄ e1 e2 I₆ e4=>?_
  have p1:=b1.trans (d1.trans e1)
  have p2:fz⊆fz₄:=λ _ h=>e2 (d2 (b2 h))
  have again:zjf R c.sc (.Name x tp) a (l.drop (i + 1)) σ₄=some (.ok fl σ₂)→∃ m,m < k∧LoopI U w K ti fr c ad fz R itA n itP l x tp a (.ok fl σ₂) m s₄:=λ he=>⟨_,hke▸lt_turn hlt,i + 1,on,σ₄,ad₄,own₄,tb₄,fz₄,m₄,rfl,hlt,ho2,p1,p2,I₆,he⟩
  cases e4 with
  | next=>exact again he'
  | cont=>exact again he'
  | brk=>cases he';exact .unfr .refl p1 p2 I₆ .next
  | ret hv=>cases he';exact .unfr .refl p1 p2 I₆ (.ret hv)
 ·have hi:i=n:=Nat.le_antisymm hin (Nat.le_of_not_lt hlt)
  refine W.done _ _ _ (hi▸hst _ _ _ _ _ _ _ _ _ b0 b2 I') λ h'' tk'' hk'=>wpAny_execs_nil ?_
  rw [List.drop_eq_nil_of_le (Nat.le_of_eq (hln.trans hi.symm))] at he'
  cases he'
  exact .pk ad' own' tb' fz' m' b1 b2 (I'.unframe (s':={ s' with heap:=h'',toks:=tk'' }) (hnot hk')).1 .next
theorem okA_e {x:Ou AV}{p:AV × St}(h:okA x=some p):x=some (.ok p.1 p.2):=
 bd_q h λ r h1 h2=>h1.trans (by cases r with
  | ok a σ=>exact Option.some.inj h2▸rfl
  | exc=>exact nn h2)
theorem head_q {α β:Type}{f:α→List α→Option β}{l:List α}{a:β}{Q:List α→Prop}(h:(List.rec none (λ o r _=>f o r) l:Option β)=some a) (k:∀ o r,f o r=some a→Q (o::r)):Q l:=
 List.casesOn (motive:=λ l=>(List.rec none (λ o r _=>f o r) l:Option β)=some a→Q l) l nn k h
theorem HO.rdr_e {o:HO}{x:Rd}(h:o.rdr? = some x):o=.rdr x.e x.k x.rest x.nm:=HO.casesOn (motive:=λ o=>o.rdr? = some x→o=.rdr x.e x.k x.rest x.nm) o (λ _=>nn) (λ _ _=>nn) (λ _ _ _ _ h=>Option.some.inj h▸rfl) (λ _=>nn) (λ _=>nn) (λ _ _=>nn) nn h
theorem HO.src_e {o:HO}{x} (h:o.src? = some x):o=.src x:=HO.casesOn (motive:=λ o=>o.src? = some x→o=.src x) o (λ _=>nn) (λ _ _=>nn) (λ _ _ _ _=>nn) (λ _ h=>Option.some.inj h▸rfl) (λ _=>nn) (λ _ _=>nn) nn h
theorem zxj {sc:Scope}{x:Str}(h:zxk sc x=true):sc.names.lookup x=some .globalImplicit:=isK_eq (f:=NameKind.glo) (λ j h=>by cases j<;>first | rfl | cases h) h
theorem loop_up {ad':List Ad}{fz':Led}{t:Code}{fl:Fl}{σ₂:St}(hp:Pre ad ad') (hf:fz⊆fz') (L:codeAny (model prog w) c.A t (λ r s'=>match r with
   | .ok f=>OkP U K w.params ti fr c ad' fz' (FlR K w.params) fl σ₂ f s'
   | .error e=>cameBackBy (model prog w) c.A c.env (λ _ _=>False) e s') s):codeAny (model prog w) c.A t (λ r s'=>match r with
   | .ok f=>OkP U K w.params ti fr c ad fz (FlR K w.params) fl σ₂ f s'
   | .error e=>cameBackBy (model prog w) c.A c.env (λ _ _=>False) e s') s:=
 codeAny_mono L λ r s' g=>by
  cases r with
  | ok f=>exact OkP.up hp hf g
  | error e=>exact g
theorem Inv.iter {P:Params}(I:Inv U K P ti fr c σ ad own tb fz m s) (o:Obj) (hf:o.isFreed=false):Inv U K P ti ((s.heap.objs.size,o)::fr) c σ ad own tb fz m { s with heap:=s.heap.push o }:=
 have hLt:c.L < s.heap.objs.size:=I.F.ns.lt
 Inv.frame ⟨I.F.push _,λ q hq=>⟨Heap.get?_push_of_some _ (I.N q hq).1,(I.N q hq).2⟩,I.nd,I.ow,I.tb,I.lo,I.og⟩ (Heap.get?_push_size _ hf) (Nat.ne_of_gt hLt) (Heap.get?_none_of_le (Nat.le_trans I.F.above (Nat.le_of_lt hLt))) λ q hq=>Nat.ne_of_lt (Heap.lt_size (I.N q hq).1)
noncomputable abbrev itO (n i:Nat):Obj:={ cls:=.type "range_iterator",dict:=none,data:=.fields #[rawInt (0 + (i:Nat) * 1),rawInt ((n:Int) - (i:Nat)),rawInt 1],slots:=#[] }
theorem for_range (hRX:RXm RX) {R:Rec}{k n:Nat}{x f:Str}{tp q cp ps:Pos}{e:PySem.Expr}{a:List Stmt}{fl:Fl}{v₀:AV}{σ₁ σ₂:St}(Y:Ok p loose mg mb K c k) (hS:∀ fr,SS prog w K ti fr U RX R c) (hr:nsIn K mainGlobals "range" = some none) (I:Inv U K w.params ti fr c σ ad own tb fz m s)
  (hf:sB f "range" = true) (hk:zxk c.sc f=true) (hs:noStar e=true) (he:Sd (model prog w) U K w.params ti fr RX c ad fz (VR K w.params) (eval e c.env) (ok v₀ σ₁) s) (hn:v₀.nat? = some n) (hl:n≤100000) (hx:zjf R c.sc (.Name x tp) a ((List.range n).map λ i=>.int (Int.ofNat i)) σ₁=some (.ok fl σ₂)) :
  Sd (model prog w) U K w.params ti fr RX c ad fz (FlR K w.params) (exec (.For (.Name x tp) (.Call (.Name f q) [e] [] cp) a [] ps) c.env) (ok fl σ₂) s:=by
 refine wpAny_For (s:=s) ?_ (λ x=>rfl)
 have hse:starEach [e] c.env=[(false,eval e c.env)]:=zqe hs
 have hk:=zxj hk
 rw [zqo.mp hf] at hk ⊢
 rw [arm_eval_Call_Name']
 refine wpAny_bind (nameX_B I.F Y.X Y.T hr rfl (by decide) ?_ Y.kf hk (by decide))
 rw [hse]
 refine PySem.callWith_type rfl (evalArgs_plain (spliced_cons (wpAny_mono he (λ v s₁ h₁=>spliced_nil ?_) λ _ _ h=>h.elim)))
 refine h₁.casesOn λ ad₁ own₁ tb₁ fz₁ m₁ a1 a2 I₁ a4=>a4.qNat (Q:=λ v=>wpAny _ _ (call (.type "range") [v] []) _ _ _) hn λ tk=>?_
 refine range1_rows I₁.F I₁.N λ h' tk' t₁ u₁ v₁ hr' F' N' hk'=>?_
 have hsz:Builtin.Range.rangeSize 0 (Int.ofNat n) 1=(n:Int):=by
  unfold Builtin.Range.rangeSize
  rw [if_pos (by decide)]
  by_cases h0:n=0
  ·subst h0;rfl
  ·rw [if_pos (by simp;omega)];simp
 have hsm:Builtin.Range.small 0 (Int.ofNat n) 1=true:=by
  unfold Builtin.Range.small
  rw [hsz]
  simp [Builtin.Range.rangeFitsLong]
  omega
 refine wpAny_pyIter_range hr' hsm ?_
 rw [hsz]
 have I₂:Inv U K w.params ti fr c σ₁ ad₁ own₁ tb₁ fz₁ m₁ { s₁ with heap:=h',toks:=tk' }:=⟨F',N',I₁.nd,I₁.ow,I₁.tb,I₁.lo,I₁.og⟩
 have hit0:itO n 0 = { cls:=.type "range_iterator",dict:=none,data:=.fields #[rawInt 0,rawInt (n:Int),rawInt 1] }:=by
  show ({ cls:=_,dict:=_,data:=.fields #[rawInt (0 + ((0:Nat):Int) * 1),rawInt ((n:Int) - ((0:Nat):Int)),rawInt 1],slots:=_ }:Obj)=_
  simp
 rw [← hit0]
 have W:Walks prog w c.A h'.objs.size [h'.objs.size] [h'.objs.size] n (λ i v=>∃ t,v=.int (0 + i * 1) t) (λ i h=>h.get? h'.objs.size=some (itO n i)):=Walks.range Y.hh h'.objs.size 0 1 n
 refine loop_up a1 a2 (sd_loop (RX:=RX) (itP:=λ i o=>o=itO n i) hRX Y hS W (by simp) (λ i o σ' ad' own' tb' fz' m' s' e _ I'=>e▸(I'.N (h'.objs.size,o) (by simp)).1) (λ _ _ h=>⟨_,h,rfl⟩) (λ i v hi hP=>?_) (I₂.iter (itO n 0) rfl) rfl hx)
 obtain ⟨tv,rfl⟩:=hP
 refine ⟨.int (Int.ofNat i),by simp [hi],?_⟩
 have hv:(Value.int (0 + (i:Int) * 1) tv)=.int (Int.ofNat i) tv:=by simp
 rw [hv]
 exact .int _ _
theorem Inv.freeze {P:Params}{ho':List HO}{pre post:Led}{y:Addr × Obj}(I:Inv U K P ti fr c σ ad own tb fz m s) (g3:own=pre++(y::post)) (g4:∀ ad' fz',Pre ad ad'→fz⊆fz'→OWs U K P ad' fz' ad ho' (pre++post)):Inv U K P ti fr c { σ with ho:=ho' } ad (pre++post) tb (y::fz) m s:=by
 have hs:fz⊆y::fz:=λ _ h=>.tail _ h
 have pm:(own++(tb++(fr++fz))).Perm ((pre++post)++(tb++(fr++(y::fz)))):=by
  have q1:((pre++post)++(tb++(fr++(y::fz)))).Perm (y::((pre++post)++(tb++(fr++fz)))):=by
   rw [← List.append_assoc,← List.append_assoc,← List.append_assoc (pre++post),← List.append_assoc _ fr fz]
   exact List.perm_middle
  refine List.Perm.trans ?_ q1.symm
  rw [g3,List.append_assoc,List.append_assoc,List.cons_append]
  exact List.perm_middle
 exact ⟨I.F,λ q hq=>I.N q (pm.mem_iff.mpr hq),(pm.map _).nodup_iff.mp I.nd,g4 _ _ .refl hs,I.tb.mono hs,I.lo.mono .refl hs,I.og⟩
theorem for_list (hRX:RXm RX) {R:Rec}{k i:Nat}{x:Str}{tp ps:Pos}{it:PySem.Expr}{a:List Stmt}{fl:Fl}{v₀:AV}{σ₁ σ₂:St}{l:List AV}(Y:Ok p loose mg mb K c k) (hS:∀ fr,SS prog w K ti fr U RX R c)
  (he:Sd (model prog w) U K w.params ti fr RX c ad fz (VR K w.params) (eval it c.env) (ok v₀ σ₁) s) (hi:v₀.hnd? = some i) (hl:zkn σ₁ i=some l) (q1:zqc l=true) (hx:zjf R c.sc (.Name x tp) a l { σ₁ with ho:=σ₁.ho.set i .dead }=some (.ok fl σ₂))
  (hnn:∀ v,foldedSetIterable it c.env v=pure v):Sd (model prog w) U K w.params ti fr RX c ad fz (FlR K w.params) (exec (.For (.Name x tp) it a [] ps) c.env) (ok fl σ₂) s:=by
 refine wpAny_For (s:=s) (wpAny_mono he (λ v s₁ h₁=>?_) λ _ _ h=>h.elim) hnn
 refine h₁.casesOn λ ad₁ own₁ tb₁ fz₁ m₁ a1 a2 I₁ a4=>a4.qHnd hi λ {xl} hxx=>?_
 obtain ⟨vs,nn,pre,post,g1,g3,g4⟩:=I₁.list2 (zjp hl) hxx
 have hmem:=I₁.N (xl.a,listOf vs.toArray nn) (by rw [g3];simp)
 refine wpAny_pyIter_list ⟨_,hmem.1,rfl,nn,rfl⟩ ?_
 have hlen:=g1.plain q1
 have W:=Walks.list (prog:=prog) (w:=w) Y.hh s₁.heap.objs.size xl.a (Nat.ne_of_lt (Heap.lt_size hmem.1)) vs.toArray
 refine loop_up a1 (λ _ h=>.tail _ (a2 h)) (sd_loop (RX:=RX) (itP:=λ i o=>o.cls=.type "list_iterator" ∧ o.data=.fields #[.ref xl.a,.int (i:Nat) 0]) hRX Y hS W (by simp [hlen]) (λ i o σ' ad' own' tb' fz' m' s' e hs I'=>⟨⟨o,(I'.N (s₁.heap.objs.size,o) (by simp)).1,e⟩,⟨_,I'.mem (hs (.head _)),rfl,nn,rfl⟩⟩) (λ i h h'=>h'.1) (λ i v hi hP=>?_) ((I₁.freeze g3 g4).iter { cls:=.type "list_iterator",data:=.fields #[.ref xl.a,.int ((0:Nat):Nat) 0] } rfl) ⟨rfl,rfl⟩ hx)
 have hi':i < l.length:=by simpa [hlen] using hi
 have hP:vs[i]? = some v:=by simpa using hP
 obtain ⟨v',k1,k2⟩:=g1.at_plain (k:=i) (a:=l[i]) q1 (List.getElem?_eq_getElem hi')
 rw [Option.some.inj (hP.symm.trans k1)]
 exact ⟨_,List.getElem?_eq_getElem hi',k2.mono .refl λ _ h=>.tail _ h⟩
theorem sd_for (hRX:RXm RX) {R:Rec}{k:Nat}(Y:Ok p loose mg mb K c k) (hE:SE prog w K ti fr U RX R c) (hS:∀ fr,SS prog w K ti fr U RX R c) (hr:nsIn K mainGlobals "range" = some none)
  (t i:PySem.Expr) (a b:List Stmt) (ps:Pos) (I:Inv U K w.params ti fr c σ ad own tb fz m s) :
  Sd (model prog w) U K w.params ti fr RX c ad fz (FlR K w.params) (exec (.For t i a b ps) c.env) (stepS R c.sc (.For t i a b ps) σ) s:=by
 have he:∀ {e p},okA (R.E c.sc e σ)=some p→Sd (model prog w) U K w.params ti fr RX c ad fz (VR K w.params) (eval e c.env) (ok p.1 p.2) s:=λ {e p} hp=>by
  have h:Sd (model prog w) U K w.params ti fr RX c ad fz (VR K w.params) (eval e c.env) (R.E c.sc e σ) s:=hE e _ _ _ _ _ _ _ I
  rwa [okA_e hp] at h
 have run:∀ {x tp l σ'} {t:Sem Flow},(∀ fl σ₂,zjf R c.sc (.Name x tp) a l σ'=some (.ok fl σ₂)→Sd (model prog w) U K w.params ti fr RX c ad fz (FlR K w.params) t (ok fl σ₂) s)→Sd (model prog w) U K w.params ti fr RX c ad fz (FlR K w.params) t (zjf R c.sc (.Name x tp) a l σ') s:=λ {x tp l σ' t} h=>by
  cases hx:zjf R c.sc (.Name x tp) a l σ' with
  | none=>trivial
  | some z=>
   obtain ⟨fl,σ₂,rfl⟩:=evFor_ok hx
   exact h _ _ hx
 cases b with
 | cons b r=>trivial
 | nil=>
  refine Sd.bd λ q1 h1=>Sd.bd λ q2 h2=>?_
  rw [zzx h1,oCall_e h2]
  obtain ⟨f,as,ks,cp⟩:=q2
  cases f with
  | Name f q=>cases ks with
   | cons=>trivial
   | nil=>
    refine Sd.bd λ e ea=>?_
    refine zj4 (Q:=λ as=>Sd _ _ _ _ _ _ _ _ _ _ _ (exec (.For _ (.Call _ as _ _) _ _ _) _) _ _) ea ?_
    exact Sd.gd λ hf=>Sd.gd λ hk=>Sd.gd λ hs=>Sd.bd λ p hp=>Sd.bd λ n hn=>Sd.gd λ hl=>run λ fl σ₂ hx=>for_range hRX Y hS hr I hf hk hs (he hp) hn (Nat.le_of_ble_eq_true hl) hx
  | Attribute o n ap=>exact Sd.bd λ p hp=>Sd.bd λ j hj=>Sd.bd λ l hl=>Sd.gd λ q1=>Sd.gd λ q2=>run λ fl σ₂ hx=>for_list hRX Y hS (he hp) hj hl q1 hx λ _=>rfl
  | _=>trivial
end
end
section
inductive FxAt (B:Heap) (e d:Addr) (fl:Value) (h:Heap):Prop
 | mk (oe vs):h.get? e=some oe→(oe.cls=.ref 122∧oe.dict=some d)→oe.data=.fields vs→((fl=.none∧vs[1]? = some .none) ∨
  ∃ T oT ts,vs[1]? = some (.ref T)∧B.get? T=none∧T≠e∧h.get? T=some oT∧oT.data=.fields ts∧ts[3]? = some fl)→FxAt B e d fl h
structure Fly (B:Heap) (l:List Env) (e d:Addr) (fl:Value) (h:Heap):Prop where
 st:B.StaysIn h
 nw:B.get? e=none
 ff:h.FunFrames B l
 at_:FxAt B e d fl h
theorem mf_dict (o:Obj) (f:Array Value→Array Value):(Obj.mapFields f o).dict=o.dict:=by
 obtain ⟨_,_,d,_⟩:=o
 cases d<;>rfl
section
variable {M:Model}{A:Around}{E:Value→Shared→Prop}{s:Shared}{B:Heap}
theorem ff_up {l:List Env}{h h':Heap}(x:h.FunFrames B l) (k:∀ b o,h.get? b=some o→(∀ vs,o.data≠.fields vs)→∃ sl,h'.get? b=some { o with slots:=sl }):h'.FunFrames B l:=
 x.of_keeps λ b o hb hn=>let ⟨sl,e⟩:=k b o hb hn;⟨_,e,rfl⟩
theorem fx_entry {env:Env}{outer:List Env}{L e d:Addr}{oe:Obj}{vs:Array Value}{head:Value}{hadNext:Bool}{Q:Unit→Shared→Prop}
  (hfr:A.frames=some (env::outer)) (hl:s.heap.FunFrames B (env::outer)) (hf:env.frame=some L) (he:s.heap.get? e=some oe) (hkb:B.StaysIn s.heap) (hen:B.get? e=none)
  (hd:oe.data=.fields vs) (hsz:1 < vs.size) (hc:oe.cls=.ref 122) (hdd:oe.dict=some d)
  (h:∀ h',Fly B (env::outer) e d (rawInt L) h'→s.heap.UpToSlots h'→Q () { s with heap:=h' }) :
  wpAny M A (do let a ← frameOf env;let pl ← entryPlaceOf L hadNext;let b ← EntryCells.newEntry head a .none (rawInt L) .none pl;setField (.ref e) 1 b) Q E s:=by
 have hnf:e∉(env::outer).filterMap (·.frame):=λ hm=>by
  obtain ⟨_,o,ho,hnf⟩:=hl.mem hm
  rw [he] at ho;cases ho;exact hnf vs hd
 refine wpAny_bind (wpAny_frameOf_fun hfr hl hf λ h₁ hs₁=>wpAny_bind (wpAny_entryPlaceOf λ pl hpl=>?_))
 unfold EntryCells.newEntry newFields
 refine wpAny_bind (wpAny_newObj_type ?_ (hpl.sizeOk5 _ _ _ _ _))
 generalize hrec:({ cls:=.type "traceback",dict:=none,data:=.fields ([head,.ref L,.none,rawInt L,.none]++(if pl.isEmpty then List.replicate 6 Value.none else pl)).toArray }:Obj)=rec
 have hfree:rec.isFreed=false:=by rw [← hrec];rfl
 have he₁:h₁.get? e=some oe:=(hs₁.2.1 e hnf).trans he
 have kb₁:B.StaysIn h₁:=λ b o hbo=>(hs₁.2.1 b λ hm=>by rw [(hl.mem hm).1] at hbo;cases hbo).trans (hkb b o hbo)
 have hTe:h₁.objs.size≠e:=Nat.ne_of_gt (Heap.lt_size he₁)
 have he₂:(h₁.push rec).get? e=some oe:=Heap.get?_push_of_some _ he₁
 have hd₃:=Obj.data_mapFields hd (·.setIfInBounds 1 (Value.ref h₁.objs.size))
 refine wpAny_setField he₂ hd hsz (h _ ?_ ?_)
 ·have keep:∀ b o,b≠e→h₁.get? b=some o→((h₁.push rec).update e (Obj.mapFields (·.setIfInBounds 1 (Value.ref h₁.objs.size)))).get? b=some o:=λ b o hbe hb=>by
   rw [Heap.get?_update_other _ _ (Ne.symm hbe)]
   exact Heap.get?_push_of_some _ hb
  refine ⟨λ b o hbo=>keep b o (λ q=>by rw [q,hen] at hbo;cases hbo) (kb₁ b o hbo),hen,ff_up hl λ b o hb hn=>?_,?_⟩
  ·obtain ⟨sl,h2⟩:=hs₁.2.2 b o hb
   exact ⟨sl,keep b _ (λ q=>by rw [q,he] at hb;cases hb;exact hn vs hd) h2⟩
  ·refine ⟨_,_,Heap.get?_update_self _ he₂ (Obj.isFreed_of_fields hd₃),⟨by rw [Obj.cls_mapFields];exact hc,by rw [mf_dict];exact hdd⟩,hd₃,.inr ⟨h₁.objs.size,rec,([head,.ref L,.none,rawInt L,.none]++(if pl.isEmpty then List.replicate 6 Value.none else pl)).toArray,by simp [hsz],kb₁.fresh,hTe,?_,by rw [← hrec],?_⟩⟩
   ·rw [Heap.get?_update_other _ _ (Ne.symm hTe)]
    exact Heap.get?_push_size h₁ hfree
   ·first | (simp;done) | (rcases hpl with rfl | ⟨_,_,_,_,_,_,_,rfl⟩<;>simp)
 ·intro b o hb hn
  obtain ⟨sl,h2⟩:=hs₁.2.2 b o hb
  have hbe:b≠e:=λ q=>by rw [q,he] at hb;cases hb;exact hn vs hd
  refine ⟨sl,?_⟩
  rw [Heap.get?_update_other _ _ (Ne.symm hbe)]
  exact Heap.get?_push_of_some _ h2
theorem fx_flight {l:List Env}{e d:Addr}{fl:Value}{f:Option Addr}{Q:Unit→Shared→Prop}(x:Fly B l e d fl s.heap) (hfl:fl≠.none)
  (h:∀ h',Fly B l e d (f.elim .none λ f=>rawInt f) h'→s.heap.UpToSlots h'→Q () { s with heap:=h' }):wpAny M A (setFlight (.ref e) f) Q E s:=by
 obtain ⟨x1,x2,x3,oe,vs,he,hc,hd,x4⟩:=x
 rcases x4 with ⟨q,_⟩ | ⟨T,oT,ts,h1,hnT,hTe,hT,hdT,h3⟩
 ·exact absurd q hfl
 have hsz:3 < ts.size:=(Array.getElem?_eq_some_iff.mp h3).1
 unfold setFlight
 refine wpAny_bind (wpAny_field he hd h1 ?_)
 rw [if_pos (show (Value.ref T != Value.none)=true from by simp)]
 have other:∀ (g:Obj→Obj) b,b≠T→(s.heap.update T g).get? b=s.heap.get? b:=λ g b hb=>Heap.get?_update_other _ _ (Ne.symm hb)
 have hne:∀ b o,s.heap.get? b=some o→(∀ vs,o.data≠.fields vs)→b≠T:=λ b o hb hn q=>by rw [q,hT] at hb;cases hb;exact hn ts hdT
 refine wpAny_setField hT hdT hsz (h _ ⟨λ b o hbo=>(other _ b λ q=>by rw [q,hnT] at hbo;cases hbo).trans (x1 b o hbo),x2,ff_up x3 λ b o hb hn=>⟨o.slots,(other _ b (hne b o hb hn)).trans hb⟩,?_⟩ λ b o hb hn=>⟨o.slots,(other _ b (hne b o hb hn)).trans hb⟩)
 exact ⟨oe,vs,(other _ e (Ne.symm hTe)).trans he,hc,hd,.inr ⟨T,_,_,h1,hnT,hTe,Heap.get?_update_self _ hT (Obj.isFreed_of_fields (Obj.data_mapFields hdT _)),Obj.data_mapFields hdT _,by simp [hsz]⟩⟩
theorem fx_note {env:Env}{outer:List Env}{L e d:Addr}{fl:Value}{Q:Unit→Shared→Prop}(hfr:A.frames=some (env::outer)) (hf:env.frame=some L) (x:Fly B (env::outer) e d fl s.heap) (hfl:fl=.none∨fl=rawInt L)
  (h:∀ h',Fly B (env::outer) e d (rawInt L) h'→s.heap.UpToSlots h'→Q () { s with heap:=h' }):wpAny M A (noteFrame (.ref e) env) Q E s:=by
 have x0:=x
 obtain ⟨x1,x2,x3,oe,vs,he,hc,hd,x4⟩:=x
 unfold noteFrame
 simp only [hf]
 rcases x4 with ⟨q,h1⟩ | ⟨T,oT,ts,h1,hnT,hTe,hT,hdT,h3⟩
 ·refine wpAny_bind (wpAny_field he hd h1 ?_)
  rw [if_neg (by decide)]
  exact fx_entry hfr x3 hf he x1 x2 hd (Array.getElem?_eq_some_iff.mp h1).1 hc.1 hc.2 h
 refine wpAny_bind (wpAny_field he hd h1 ?_)
 rw [if_pos (show (Value.ref T != Value.none)=true from by simp)]
 refine wpAny_bind (wpAny_field hT hdT h3 ?_)
 rcases hfl with rfl | rfl
 ·rw [if_neg (show ¬ ((Value.none == rawInt L)=true) from by simp [rawInt])]
  have hsz:3 < ts.size:=(Array.getElem?_eq_some_iff.mp h3).1
  refine wpAny_bind (wpAny_setField hT hdT hsz ?_)
  have other:∀ (g:Obj→Obj) b,b≠T→(s.heap.update T g).get? b=s.heap.get? b:=λ g b hb=>Heap.get?_update_other _ _ (Ne.symm hb)
  have hne:∀ b o,s.heap.get? b=some o→(∀ vs,o.data≠.fields vs)→b≠T:=λ b o hb hn q=>by rw [q,hT] at hb;cases hb;exact hn ts hdT
  refine fx_entry hfr (ff_up x3 λ b o hb hn=>⟨o.slots,(other _ b (hne b o hb hn)).trans hb⟩) hf ((other _ e (Ne.symm hTe)).trans he) (λ b o hbo=>(other _ b λ q=>by rw [q,hnT] at hbo;cases hbo).trans (x1 b o hbo)) x2 hd (Array.getElem?_eq_some_iff.mp h1).1 hc.1 hc.2 λ h' y z=>?_
  exact h h' y λ b o hb hn=>z b o ((other _ b (hne b o hb hn)).trans hb) hn
 ·rw [if_pos (show (rawInt L == rawInt L)=true from by simp)]
  exact wpAny_pure (h s.heap x0 (.refl _))
theorem ff_tail {env:Env}{outer:List Env}{h:Heap}(x:h.FunFrames B (env::outer)):h.FunFrames B outer:=let ⟨_,_,k⟩:=x;k
theorem fx_leave {env:Env}{outer:List Env}{L e d:Addr}{fl:Value}{Q:Unit→Shared→Prop}(hfr:A.frames=some (env::outer)) (hf:env.frame=some L) (x:Fly B (env::outer) e d fl s.heap) (hfl:fl=.none∨fl=rawInt L)
  (h:∀ h',Fly B outer e d .none h'→s.heap.UpToSlots h'→Q () { s with heap:=h' }):wpAny M A (leaving env (.ref e)) Q E s:=by
 unfold leaving
 refine wpAny_bind (fx_note hfr hf x hfl λ h' y z=>?_)
 refine fx_flight y (by simp [rawInt]) λ h'' y' z'=>h h'' ⟨y'.st,y'.nw,ff_tail y'.ff,y'.at_⟩ (z.trans z')
end
end
section
inductive EsAt (es:List DictEntry) (ta:Addr):Prop
 | mk (P t3 t4 wv):es=[⟨PyData.keyHash P "what",.str "what" t3,wv⟩,⟨PyData.keyHash P "at",.str "at" t4,.ref ta⟩]→handedIn wv=true→EsAt es ta
inductive RXw (Pf:Cx→Value→Prop) (c:Cx) (fz:Led) (i:Int) (e:Value) (s:Shared):Prop
 | mk (ea d:Addr) (B:Heap) (es:List DictEntry) (n:Nat) (ta:Addr) (t1 t2:Tok) (ot:Obj) (n':Nat) (fl:Value):e=.ref ea→Pf c fl→c.base.StaysIn B→(∀ b o,c.h₀.get? b=some o→b∉(c.env::c.outer).filterMap (·.frame)→B.get? b=some o) →
  (∀ q∈fz,B.get? q.1=some q.2∧c.h₀.get? q.1=none)→c.h₀.UpToSlots s.heap→Fly B (c.env::c.outer) ea d fl s.heap→(B.get? d=some (dictOf es n)∧c.h₀.get? d=none∧c.h₀.get? ea=none)→EsAt es ta→B.get? ta=some ot→ot.cls=.type "tuple" → ot.data=.seq #[.int 3 t1,.int i t2] n'→RXw Pf c fz i e s
inductive GT:List TabI→Led→Prop
 | nil:GT [] []
 | cons {i is l ps}:GT is l→GT (i::is) ((i.P,tabObj ps)::l)
theorem Tabs.gt {fz:Led}{is:List TabI}{l:Led}(h:Tabs fz is l):GT is l:=by
 induction h with
 | nil=>exact .nil
 | cons a b ih=>
  rcases a with a | ⟨c,t1,t2,a,_⟩
  ·rw [a];exact .cons ih
  ·rw [a];exact .cons ih
inductive RXt (ti:List TabI) (Pf:Cx→Value→Prop) (c:Cx) (fz:Led) (i:Int) (e:Value) (s:Shared):Prop
 | mk (tbl):GT ti tbl→(s.os,s.gens,s.drawn)=c.og→RXw Pf c (tbl++fz) i e s→RXt ti Pf c fz i e s
noncomputable abbrev RX1 (ti:List TabI):Cx→Led→Int→Value→Shared→Prop:=RXt ti λ c fl=>fl=.none∨fl=rawInt c.L
noncomputable abbrev RN1 (ti:List TabI):Cx→Led→Int→Value→Shared→Prop:=RXt ti λ c fl=>fl=rawInt c.L
theorem rx_m (ti:List TabI) (Pf:Cx→Value→Prop):RXm (RXt ti Pf):=by
 intro c fz fz' i e s hs x
 obtain ⟨tbl,gt,og,ea,d,B,es,n,ta,t1,t2,ot,n',fl,a1,a2,a3,a4,a5,a6,a7,a8,a9,b1,b2,b3⟩:=x
 exact ⟨tbl,gt,og,ea,d,B,es,n,ta,t1,t2,ot,n',fl,a1,a2,a3,a4,λ q hq=>a5 q ((List.mem_append.mp hq).elim (λ h=>List.mem_append_left _ h) λ h=>List.mem_append_right _ (hs h)),a6,a7,a8,a9,b1,b2,b3⟩
theorem rx_a {ti:List TabI}:RXa (RX1 ti):=by
 intro _ _ _ _ _ _ x
 obtain ⟨tbl,gt,og,ea,d,B,es,n,ta,t1,t2,ot,n',fl,a1,a2,a3,a4,a5,a6,a7,a8,a9,b1,b2,b3⟩:=x
 exact ⟨tbl,gt,og,ea,d,B,es,n,ta,t1,t2,ot,n',fl,a1,a2,a3,a4,a5,a6,a7,a8,a9,b1,b2,b3⟩
section
variable {prog:Program}{w:World}{ti:List TabI}
theorem zz6:zkv prog w (RX1 ti):=by
 rintro c c' m hog hb ho ⟨A,hA,hfr⟩ FG hL fz i e s ⟨tbl,gt,og,ea,d,B,es,n,ta,t1,t2,ot,n',fl,rfl,a2,a3,a4,a5,a6,a7,⟨a8,a9,a10⟩,a11,b1,b2,b3⟩
 have hL':∀ b o,c.h₀.get? b=some o→c'.h₀.get? b=some o:=FG.keep
 rw [ho] at a7
 rw [hA]
 refine fx_leave (Around.frames_deeper hfr) rfl a7 a2 λ h' x y=>⟨⟨tbl,gt,og.trans hog,ea,d,B,es,n,ta,t1,t2,ot,n',.none,rfl,.inl rfl,hb▸a3,λ b o e hn=>a4 b o (hL' b o e) λ hm=>?_,λ q hq=>⟨(a5 q hq).1,kts_none hL' (a5 q hq).2⟩,((Heap.UpToSlots.of_keeps hL').trans a6).trans y,x,⟨a8,kts_none hL' a9,kts_none hL' a10⟩,a11,b1,b2,b3⟩,(a6.trans y).ns FG.ns⟩
 rw [ho] at hm
 obtain ⟨env,he,hf⟩:=List.mem_filterMap.mp hm
 rcases List.mem_cons.mp he with rfl | he
 ·have:c'.L=b:=Option.some.inj hf
  rw [← this,kts_none hL' hL] at e;cases e
 ·exact hn (List.mem_filterMap.mpr ⟨env,he,hf⟩)
theorem rx_flies {K:Frag}{p:Program}{loose:List Str}{mg mb:Str→Option Value}{c:Cx}{k:Nat}(Y:Ok p loose mg mb K c k):Flies prog w (RX1 ti) (RN1 ti) c where
 note:=by
  rintro fz i e s ⟨tbl,gt,og,ea,d,B,es,n,ta,t1,t2,ot,n',fl,rfl,a2,a3,a4,a5,a6,a7,a8,a9,b1,b2,b3⟩
  exact fx_note Y.hA rfl a7 a2 λ h' x y=>⟨tbl,gt,og,ea,d,B,es,n,ta,t1,t2,ot,n',_,rfl,rfl,a3,a4,a5,a6.trans y,x,a8,a9,b1,b2,b3⟩
 back:=by
  rintro fz i e s ⟨tbl,gt,og,ea,d,B,es,n,ta,t1,t2,ot,n',fl,rfl,rfl,a3,a4,a5,a6,a7,a8,a9,b1,b2,b3⟩
  have x:=a7
  obtain ⟨_,_,_,oe,vs,he,hc,hd,x4⟩:=x
  obtain ⟨q,_⟩ | ⟨T,oT,ts,h1,_⟩:=x4
  ·simp [rawInt] at q
  unfold cameBackBy
  refine wpAny_bind (wpAny_field he hd h1 ?_)
  rw [if_neg (show ¬ ((Value.ref T == Value.none)=true) from by simp)]
  exact fx_flight a7 (by simp [rawInt]) λ h' x y=>⟨tbl,gt,og,ea,d,B,es,n,ta,t1,t2,ot,n',_,rfl,.inr rfl,a3,a4,a5,a6.trans y,x,a8,a9,b1,b2,b3⟩
end
end
section
inductive FactsX (K:Frag):Prop
 | mk (nm q N bs bm hdct sn sub ab col dd k0 k1 k2 k3 k5 newId):K.lookup 122=some (excClassObj nm q 122 N bs bm hdct sn sub ab col dd k0 k1 k2 k3 k5 newId)→bm.contains (.type "BaseException")=true→(122:Nat)≠0→FactsX K
inductive OwnExc (E:Value→Shared→Prop) (v:Value) (s₁:Shared):Prop
 | mk (a ob vs nm q C N bs bm hdct sn sub ab col dd k0 k1 k2 k3 k5 newId):v=.ref a→s₁.heap.get? a=some ob→ob.cls=.ref C→ob.data=.fields vs→vs[1]? = some .none →
   s₁.heap.get? C=some (excClassObj nm q C N bs bm hdct sn sub ab col dd k0 k1 k2 k3 k5 newId)→bm.contains (.type "BaseException")=true→E (.ref a) s₁→OwnExc E v s₁
section
variable {prog:Program}{w:World}{K:Frag}{ti:List TabI}{fr:Led}{U:SubP}{c:Cx}{O:Out}
 {σ:St}{ad:List Ad}{own tb fz:Led}{m:Str→Option Value}{s:Shared}{p:Program}{loose:List Str}{mg mb:Str→Option Value}
theorem raise_own {M:Model}{A:Around}{E:Value→Shared→Prop}{env:Env}{e:PySem.Expr}{pos:Pos}{Q:Flow→Shared→Prop}(hh:A.handled=none)
  (h:wpAny M A (eval e env) (OwnExc E) E s):wpAny M A (exec (.Raise (some e) none pos) env) Q E s:=by
 show wpAny M A (do standAt pos;raiseStmt env (some (do let v ← eval e env;standAt pos;pure v)) none) Q E s
 refine wpAny_bind (wpAny_standAt ?_)
 unfold raiseStmt
 dsimp only
 refine wpAny_bind (wpAny_bind (wpAny_mono h (λ v s₁ h₁=>wpAny_bind (wpAny_standAt (wpAny_pure ?_))) λ _ _ x=>x))
 obtain ⟨a,ob,vs,nm,q,C,N,bs,bm,hdct,sn,sub,ab,col,dd,k0,k1,k2,k3,k5,newId,rfl,ha,hcls,hd,h1,hC,hb,hE⟩:=h₁
 obtain ⟨hp,g,d,tk,os⟩:=s₁
 have hcB:(Value.ref C::bm).contains (.type "BaseException")=true:=by rw [List.contains_cons,hb,Bool.or_true]
 have hnt:∀ {Q':Bool→Shared→Prop},Q' false ⟨hp,g,d,tk,os⟩→wpAny M A (isType (.ref a)) Q' E ⟨hp,g,d,tk,os⟩:=by
  intro Q' hq
  simp only [isType,loadHead]
  refine wpAny_bind (wpAny_loadPart ha ?_)
  rw [hd];exact wpAny_pure hq
 refine wpAny_bind (wpAny_pure ?_)
 dsimp only
 refine wpAny_bind (wpAny_holding ?_)
 unfold excFromValue isExcClass
 refine wpAny_bind (wpAny_bind (hnt ?_))
 simp only [Bool.false_eq_true,if_false]
 refine wpAny_pure ?_
 simp only [Bool.false_eq_true,if_false]
 have hty:∀ {Q':Value→Shared→Prop},Q' (.ref C) ⟨hp,g,d,tk,os⟩→wpAny M A (typeOf (.ref a)) Q' E ⟨hp,g,d,tk,os⟩:=by
  intro Q' hq
  refine wpAny_bind (wpAny_loadPart ha (wpAny_pure ?_))
  rw [hcls];exact hq
 unfold isInstance
 refine wpAny_bind (wpAny_bind (hty (wpAny_isSubtype_exc hC ?_)))
 rw [hcB]
 simp only [if_true]
 refine wpAny_pure ?_
 refine wpAny_bind (hnt ?_)
 simp only [Bool.false_eq_true,if_false]
 unfold raisedInstance
 refine wpAny_bind (wpAny_bind (hty (wpAny_bind (wpAny_bind (wpAny_loadPart hC (wpAny_pure ?_))))))
 rw [if_pos (by rfl)]
 refine wpAny_pure ?_
 unfold setFlight
 refine wpAny_bind (wpAny_bind (wpAny_field ha hd h1 ?_))
 rw [if_neg (by decide)]
 exact wpAny_pure (wpAny_raiseNew_none hh hE)
theorem news_off {h₀ h:Heap}{L:Addr}{env:Env}{outer:List Env}{base:Heap}{A:Around}{led:Led}(B:Below A base outer h₀) (N:News h₀ L h led) (hf:env.frame=some L) {q:Addr × Obj}(hq:q∈led):q.1∉(env::outer).filterMap (·.frame):=λ hm=>by
 obtain ⟨env',he,hf'⟩:=List.mem_filterMap.mp hm
 rcases List.mem_cons.mp he with rfl | he
 ·rw [hf] at hf';exact (N q hq).2.1 (Option.some.inj hf').symm
 ·obtain ⟨o,ho,_⟩:=(B.frames.mem (List.mem_filterMap.mpr ⟨env',he,hf'⟩)).2
  rw [(N q hq).2.2] at ho;cases ho
theorem isThree_q {l:List AV}{vi:Int}{Q:List AV→Prop}(h:zko l=some vi) (k:Q [.int 3,.int vi]):Q l:=
 bd_q h λ q e1 h=>bd_q h λ n e2 h=>gd_q h λ e3 h=>two_q e1 (by
  rw [AV.nat_e e2,AV.int_e h,Nat.eq_of_beq_eq_true e3]
  exact k)
theorem three_q {a:AV}{l:List AV}{vi:Int}{v:Value}{Q:Value→Prop}{P:Params}(h:VR K P ad fz a v) (ea:a.tup? = some l) (e:zko l=some vi) (k:∀ {ta n dd sl t3 t4},Hd K fz ta ⟨.type "tuple",dd,.seq [Value.int 3 t3,.int vi t4].toArray n,sl⟩→Q (.ref ta)):Q v:=
 h.qTup ea λ {vs ta n dd sl} h1 h2=>by
  have h2:=isThree_q (Q:=λ l=>VRs K P ad fz l vs→VRs K P ad fz [.int 3,.int vi] vs) e id h2
  exact h2.qCons (Q:=λ vs=>Hd K fz ta ⟨.type "tuple",dd,.seq vs.toArray n,sl⟩→Q (.ref ta)) rfl (λ {v vs} a b=>b.qCons (Q:=λ vs=>Hd K fz ta ⟨.type "tuple",dd,.seq (v::vs).toArray n,sl⟩→Q (.ref ta)) rfl λ {u us} b d=>d.qNil (Q:=λ us=>Hd K fz ta ⟨.type "tuple",dd,.seq (v::u::us).toArray n,sl⟩→Q (.ref ta))
   (a.qInt (Q:=λ v=>Hd K fz ta ⟨.type "tuple",dd,.seq [v,u].toArray n,sl⟩→Q (.ref ta)) (x:=3) rfl λ t3=>b.qInt (Q:=λ u=>Hd K fz ta ⟨.type "tuple",dd,.seq [.int 3 t3,u].toArray n,sl⟩→Q (.ref ta)) rfl λ t4 h=>k h)) h1
theorem raise_fly {k:Nat}{x:Ad}{ho:List HO}{pre post:Led}{vs:Array Value}{n:Nat}{t1 t2:Tok}{wv:Value}{ta nt ddt slt t3 t4} {vi:Int}(Y:Ok p loose mg mb K c k) (I₁:Inv U K w.params ti fr c ⟨σ.loc,ho⟩ ad own tb fz m s)
  (h3:own=pre++([(x.a,⟨.ref 122,some x.d,.fields vs,#[]⟩),(x.d,dictOf [⟨PyData.keyHash w.params "what",.str "what" t1,wv⟩,⟨PyData.keyHash w.params "at",.str "at" t2,.ref ta⟩] n)]++post))
  (c1:Hd K fz ta ⟨.type "tuple",ddt,.seq [Value.int 3 t3,.int vi t4].toArray nt,slt⟩) (b2:handedIn wv=true) (b3:vs[1]? = some .none):RX1 ti c (fr++fz) vi (.ref x.a) s:=by
 have m1:=I₁.ownMem h3 (p:=(x.a,⟨.ref 122,some x.d,.fields vs,#[]⟩)) (.head _)
 have m2:=I₁.ownMem h3 (p:=(x.d,dictOf [⟨PyData.keyHash w.params "what",.str "what" t1,wv⟩,⟨PyData.keyHash w.params "at",.str "at" t2,.ref ta⟩] n)) (.tail _ (.head _))
 have g1:=I₁.N _ m1
 have g2:=I₁.N _ m2
 have K':=pushX (env:=c.env) Y.B I₁.F rfl Y.kf
 have offs:∀ q∈own++(tb++(fr++fz)),q.1∉(c.env::c.outer).filterMap (·.frame):=λ q hq=>news_off Y.B I₁.N rfl hq
 have hbase:∀ b o,c.base.get? b=some o→b∉(c.env::c.outer).filterMap (·.frame):=λ b o e hm=>nomatch (K'.frames.mem hm).1.symm.trans e
 have hxa:∀ b o,c.h₀.get? b=some o→b≠x.a:=λ b o e q=>nomatch (q▸g1.2.2).symm.trans e
 have keepB:∀ b o,s.heap.get? b=some o→b≠x.a→b∉(c.env::c.outer).filterMap (·.frame)→(hideAll s.heap (x.a::(c.env::c.outer).filterMap (·.frame))).get? b=some o:=λ b o e h1 h2=>
  hideAll_get _ e λ hm=>(List.mem_cons.mp hm).elim h1 h2
 have keep0:∀ b o,c.base.get? b=some o→(hideAll s.heap (x.a::(c.env::c.outer).filterMap (·.frame))).get? b=some o:=λ b o e=>keepB b o (I₁.F.keep _ _ (Y.B.stays b o e)) (hxa _ _ (Y.B.stays _ _ e)) (hbase b o e)
 have nd:=I₁.nd
 rw [h3,List.map_append,List.map_append] at nd
 have ndx:∀ q∈tb++(fr++fz),q.1≠x.a:=λ q hq e=>(List.nodup_append.mp nd).2.2 x.a (by simp) q.1 (List.mem_map_of_mem hq) e.symm
 have hdx:x.d≠x.a:=λ e=>by
  have:=(List.nodup_append.mp (List.nodup_append.mp nd).1).2.1
  exact (List.nodup_cons.mp this).1 (by rw [← e];exact List.mem_cons_self ..)
 have sub:∀ q∈tb++(fr++fz),(hideAll s.heap (x.a::(c.env::c.outer).filterMap (·.frame))).get? q.1=some q.2∧c.h₀.get? q.1=none:=λ q hq=>
  have h:=I₁.N q (List.mem_append_right _ hq)
  ⟨keepB _ _ h.1 (ndx q hq) (offs q (List.mem_append_right _ hq)),h.2.2⟩
 exact ⟨tb,I₁.tb.gt,I₁.og,x.a,x.d,hideAll s.heap (x.a::(c.env::c.outer).filterMap (·.frame)),_,n,ta,t3,t4,⟨.type "tuple",ddt,.seq [Value.int 3 t3,.int vi t4].toArray nt,slt⟩,nt,.none,rfl,.inl rfl,λ b o e=>keep0 b o e,
  λ b o e hm=>keepB b o (I₁.F.keep _ _ e) (hxa _ _ e) hm,sub,.of_keeps I₁.F.keep,⟨λ b o e=>of_hideAll _ e,hideAll_none _ (.head _),funFrames_hide K'.frames λ env he b hb=>.tail _ (List.mem_filterMap.mpr ⟨env,he,hb⟩),⟨_,vs,g1.1,⟨rfl,rfl⟩,rfl,.inl ⟨rfl,b3⟩⟩⟩,
  ⟨keepB _ _ g2.1 hdx (offs _ m2),g2.2.2,g1.2.2⟩,⟨_,_,_,_,rfl,b2⟩,c1.elim (λ c1=>(sub _ (List.mem_append_right _ (List.mem_append_right _ c1))).1) (λ c1=>keep0 _ _ (Y.XB _ _ c1)),rfl,rfl⟩
theorem raise_ok {D:Nat}(FX:FactsX K):∀ R c fr,Ok p loose mg mb K c D→SE prog w K ti fr U (RX1 ti) R c→∀ e f ps,zz3 w K ti fr U c λ σ ad fz s=>Sd (model prog w) U K w.params ti fr (RX1 ti) c ad fz (FlR K w.params) (exec (.Raise e f ps) c.env) (stepS R c.sc (.Raise e f ps) σ) s:=by
 intro R c fr Y hE e f ps σ ad own tb fz m s I
 cases e with
 | none=>trivial
 | some e=>
 cases f with
 | some f=>trivial
 | none=>
 have h:Sd (model prog w) U K w.params ti fr (RX1 ti) c ad fz (VR K w.params) (eval e c.env) (R.E c.sc e σ) s:=hE e _ _ _ _ _ _ _ I
 show Sd _ _ _ _ _ _ _ _ _ _ _ _ (armRse R c.sc e σ) _
 unfold armRse
 cases q:R.E c.sc e σ with
 | none=>trivial
 | some x=>
 rw [q] at h
 cases x with
 | exc i=>
  show wpAny _ _ (do standAt ps;raiseStmt c.env (some (do let v ← eval e c.env;standAt ps;pure v)) none) _ _ _
  refine wpAny_bind (wpAny_standAt ?_)
  unfold raiseStmt
  exact wpAny_bind (wpAny_bind (wpAny_mono h (λ _ _ h=>h.elim) λ _ _ h=>h))
 | ok v σ₁=>
 refine Sd.bd λ i ei=>Sd.bd λ a ha=>Sd.bd λ l hl=>?_
 cases e3:zko l with
 | none=>trivial
 | some vi=>
 refine raise_own (s:=s) Y.hh (wpAny_mono h (λ v s₁ h₁=>?_) λ _ _ h=>h.elim)
 refine h₁.casesOn λ ad₁ own₁ tb₁ fz₁ m₁ a1 a2 I₁ a4=>a4.qHnd (Q:=λ v=>OwnExc _ v s₁) ei λ {x} hx=>?_
 refine (I₁.at (exnAt_e ha) hx).casesOn λ e' pre post h2 h3 h4=>?_
 refine IExn.casesOn (motive:=λ e' _=>own₁=pre++(e'++post)→_) (show IExn K w.params ad₁ fz₁ x a e' from h2.inv) (λ {v wv vs n t1 t2} b1 b2 b3 h3=>?_) h3
 have g1:=I₁.N _ (I₁.ownMem h3 (p:=(x.a,⟨.ref 122,some x.d,.fields vs,#[]⟩)) (.head _))
 have fly:RX1 ti c (fr++fz) vi (.ref x.a) s₁:=rx_m ti _ _ _ _ _ _ _ (λ q hq=>List.mem_append.mpr ((List.mem_append.mp hq).imp_right λ h=>a2 h)) (three_q (Q:=λ v=>own₁=pre++([(x.a,⟨.ref 122,some x.d,.fields vs,#[]⟩),(x.d,dictOf [⟨PyData.keyHash w.params "what",.str "what" t1,wv⟩,⟨PyData.keyHash w.params "at",.str "at" t2,v⟩] n)]++post)→RX1 ti c (fr++fz₁) vi (.ref x.a) s₁) b1 hl e3 (λ c1 h3=>raise_fly (σ:=σ₁) Y I₁ h3 c1 b2 b3) h3)
 obtain ⟨nm,q,N,bs,bm,hdct,sn,sub,ab,col,dd,k0,k1,k2,k3,k5,newId,f1,f2,_⟩:=FX
 exact ⟨x.a,_,vs,nm,q,122,N,bs,bm,hdct,sn,sub,ab,col,dd,k0,k1,k2,k3,k5,newId,rfl,g1.1,rfl,rfl,b3,Y.X.keeps I₁.F.keep _ _ f1,f2,fly⟩
end
end
section
section
variable {prog:Program}{w:World}{K:Frag}{ti:List TabI}{fr:Led}{U:SubP}{c:Cx}{O:Out}
 {σ:St}{ad:List Ad}{own tb fz:Led}{m:Str→Option Value}{s:Shared}{p:Program}{loose:List Str}{mg mb:Str→Option Value}
noncomputable def RaiseOK (prog:Program) (w:World) (K:Frag) (ti:List TabI) (U:SubP) (O:Out) (p:Program) (loose:List Str) (mg mb:Str→Option Value) (D:Nat):Prop:=
 ∀ R c fr,Ok p loose mg mb K c D→SE prog w K ti fr U (RX1 ti) R c→∀ e f ps,zz3 w K ti fr U c λ σ ad fz s=>Sd (model prog w) U K w.params ti fr (RX1 ti) c ad fz (FlR K w.params) (exec (.Raise e f ps) c.env) (stepS R c.sc (.Raise e f ps) σ) s
structure Base (prog:Program) (w:World) (K:Frag) (ti:List TabI) (U:SubP) (O:Out) (p:Program) (loose:List Str) (mg mb:Str→Option Value) (D:Nat):Prop where
 hM:MulT prog w
 FA:zqr K w.params O
 FC:zxf K w.params O
 hr:nsIn K mainGlobals "range" = some none
 hti:O.lam=true→∀ sc i,zxe sc=some i→i∈ti
 hP:∀ fr,PrimOK prog w K ti fr U (RX1 ti) O p loose mg mb D
 hB:∀ f toks o post,U.blk f toks o post→Blk prog w K ti (RX1 ti) p loose mg mb D f toks o post
 hR:RaiseOK prog w K ti U O p loose mg mb D
structure SndAt (prog:Program) (w:World) (K:Frag) (ti:List TabI) (U:SubP) (R:Rec) (c:Cx):Prop where
 E:∀ fr,SE prog w K ti fr U (RX1 ti) R c
 T:∀ fr,ST prog w K ti fr U (RX1 ti) R c
 S:∀ fr,SS prog w K ti fr U (RX1 ti) R c
 W:∀ fr,SW prog w K ti fr U (RN1 ti) R c
 C:∀ fr,SC prog w K ti fr U (RX1 ti) R c
theorem zq8 {D:Nat}(H:Base prog w K ti U O p loose mg mb D):∀ n c,Ok p loose mg mb K c (n + D)→SndAt prog w K ti U (run O n) c
 | 0,c,_=>by
  refine ⟨λ fr=>?_,λ fr=>?_,λ fr=>?_,λ fr=>?_,λ fr=>?_⟩
  ·intro e σ ad own tb fz m s I;trivial
  ·intro e σ ad own tb fz m s I;trivial
  ·intro e σ ad own tb fz m s I;trivial
  ·intro t a σ ad own tb fz m s I;exact λ _=>nn
  ·intro f a as vs σ ad own tb fz m s I h1 h2 h3;trivial
 | n + 1,c,Y=>by
  have ih:=zq8 H n
  have Yn:Ok p loose mg mb K c (n + D):=Y.le (by omega)
  have Yd:Ok p loose mg mb K c D:=Y.le (by omega)
  have h:=ih c Yn
  have hX:=rx_m ti (λ c fl=>fl=.none∨fl=rawInt c.L)
  have hN:=rx_m ti (λ c fl=>fl=rawInt c.L)
  have hfl:Flies prog w (RX1 ti) (RN1 ti) c:=rx_flies Y
  have Y':Ok p loose mg mb K c (n + D + 1):=Y.le (by omega)
  refine ⟨λ fr=>?_,λ fr=>?_,λ fr=>?_,λ fr=>?_,λ fr=>?_⟩
  ·intro e σ ad own tb fz m s I
   exact sd_stepE hX H.hM H.FA Y (h.E fr) (h.T fr) (λ f as ks ps σ ad own tb fz m s I=>sd_call hX H.FA H.FC Y (h.E fr) (h.C fr) f as ks ps I) (λ as b sc ps σ ad own tb fz m s I=>sd_lambda H.hti Y as b sc ps I) e I
  ·intro e σ ad own tb fz m s I
   exact sd_stepT hX H.FA Y (h.E fr) (h.T fr) e I
  ·intro st σ ad own tb fz m s I
   exact sd_stepS hX H.FA Y (h.E fr) (h.T fr) (h.S fr) (λ t a b ps σ ad own tb fz m s I=>sd_while hX hfl (h.W fr) t a b ps I) (λ t i a b ps σ ad own tb fz m s I=>sd_for hX Y (h.E fr) h.S H.hr t i a b ps I)
    (λ e f ps=>H.hR _ c fr Yd (h.E fr) e f ps) st I
  ·intro t a σ ad own tb fz m s I
   exact sd_stepW hX hN hfl (h.T fr) (h.S fr) (h.W fr) t a I
  ·exact sd_stepC hX rx_a zz6 H.FC Y' (by omega) (H.hP fr) H.hB (λ c' Y=>(ih c' Y).C fr) (λ c' Y=>(ih c' Y).S fr) (λ c' Y=>(ih c' Y).E fr)
end
end
section
section
variable {prog:Program}{w:World}{M:Model}{A:Around}{E:Value→Shared→Prop}{h:Heap}{g:Array GenState}{d:Drawn}{t:Nat}{os:OsState}
variable {nm q:Str}{C N:Addr}{bs bm bmB:List Value}{hdct:Bool}{sn:List Str}{sub:List Value}{ab:Bool}{col:Option Bool}{dd:Option Addr}{k0 k1 k2 k3 k5:Option Value}{B newId initId:String}
noncomputable abbrev Over (bmB bm:List Value):Prop:=∀ (X:String) (b:Bool),bmB.contains (.type X)=b→bm.contains (.type X)=b
theorem zkl (T:Over bmB bm) {X:String}{b:Bool}(e:bmB.contains (.type X)=b):(Value.ref C::bm).contains (.type X)=b:=by rw [List.contains_cons,T X b e];rfl
theorem own_check_new (F:ExcBaseFacts B newId initId bmB) (T:Over bmB bm) {rest:List Value}{Q:Unit→Shared→Prop}(hC:h.get? C=some (excClassObj nm q C N bs bm hdct sn sub ab col dd k0 k1 k2 k3 k5 newId))
  (hq:Q () ⟨h,g,d,t,os⟩):wpAny M A (checkBuiltinCall newId ⟨.ref C::rest,[]⟩) Q E ⟨h,g,d,t,os⟩:=by
 have h1:=zkl (C:=C) T F.hasB
 have h2:=F.noStar
 simp only [checkBuiltinCall,F.newKind,F.newSplit,F.newRow]
 repeat (first | refine wpAny_loadPart_at hC ?_ | (refine wpAny_isSubtype_exc hC ?_;rw [h1]) | refine wpAny_staticBase_exc hC ?_ | refine wpAny_madeBy_exc hC ?_ | simp only [bne_self_eq_false,Bool.false_eq_true,if_false] | wp_step)
 exact hq
theorem own_new (F:ExcBaseFacts B newId initId bmB) (T:Over bmB bm) {R:Result→Shared→Prop}{rest:List Value}(hC:h.get? C=some (excClassObj nm q C N bs bm hdct sn sub ab col dd k0 k1 k2 k3 k5 newId))
  (hq:R (.ok (.ret (.ref (h.objs.size + 1)))) ⟨(h.push { cls:=.type "tuple",data:=.seq rest.toArray }).push
   { cls:=.ref C,data:=.fields #[.ref h.objs.size,.none,.none,.none,.bool false,.none] },g,d,t,os⟩) (hrest:rest.length≤sizeLine) :
  codeAny (model prog w) A (.builtin newId ⟨.ref C::rest,[]⟩) R ⟨h,g,d,t,os⟩:=by
 have hends:=F.ends
 have h1:=zkl (C:=C) T F.hasB
 have h2:=zkl (C:=C) T F.noAttr
 have h3:=zkl (C:=C) T F.noName
 refine codeAny_builtinAt F.entry ?_
 unfold Builtin.«BaseException.__new__»
 refine PySem.wpAt_bind ?_
 show PySem.wpAt _ _ _ (stack >>= _) _ _ _
 refine PySem.wpAt_bind (PySem.wpAt_stack λ p below=>PySem.wpAt_of_wpAny ?_)
 wp_walk
 refine PySem.wpAt_of_wpAny ?_
 rw [F.owner]
 repeat (first | with_reducible refine wpAny_madeHere_exc F.canon hC ?_ | with_reducible refine wpAny_loadPart_at hC ?_ | (with_reducible refine wpAny_isSubtype_exc hC ?_;first | rw [h1] | rw [h2] | rw [h3]) | wp_step)
 show R _ _
 rw [Heap.size_push]
 exact hq
theorem own_type_call (F:ExcBaseFacts B newId initId bmB) (T:Over bmB bm) {rest:List Value}{fI:Addr}{Q:Fin→Shared→Prop}
  (hC:h.get? C=some (excClassObj nm q C N bs bm hdct sn sub ab col dd k0 k1 k2 k3 k5 newId)) (hL:Looks (model prog w) h (typeLookup (.ref C) "__init__") (some (.ref fI))) (hb:∀ e,Looks (model prog w) h (bindSpecial (.ref fI) (.ref e)) (.ref fI,[.ref e]))
  (hq:∀ h',Heap.MadeExcOf h h' (h.objs.size + 1) (.ref C) rest →
   wpAny (model prog w) A (call (.ref fI) (.ref (h.objs.size + 1)::rest)) (λ r s'=>r=.none∧Q (.done (.ret (.ref (h.objs.size + 1)))) s') E ⟨h',g,d,t,os⟩) (hrest:rest.length≤sizeLine) :
  wpAny (model prog w) A (Builtin.«type.__call__» ⟨.ref C::rest,[]⟩) Q E ⟨h,g,d,t,os⟩:=by
 repeat (first | with_reducible refine wpAny_loadPart_at hC ?_ | with_reducible refine wpAny_madeBy_exc hC ?_ | wp_step)
 refine codeAny_call_builtin_code (Code.quiet_builtin _ F.quiet) (own_check_new F T hC ?_)
 refine own_new F T hC ?_ hrest
 show wpAny _ _ _ _ _ _
 have kp:∀ b o,h.get? b=some o→((h.push { cls:=.type "tuple",data:=.seq rest.toArray }).push { cls:=.ref C,data:=.fields #[.ref h.objs.size,.none,.none,.none,.bool false,.none] }).get? b=some o:=λ b o e=>Heap.get?_push_of_some _ (Heap.get?_push_of_some _ e)
 have hC₁:=kp _ _ hC
 have hget:((h.push { cls:=.type "tuple",data:=.seq rest.toArray }).push
   { cls:=.ref C,data:=.fields #[.ref h.objs.size,.none,.none,.none,.bool false,.none] }).get? (h.objs.size + 1)=some
   { cls:=.ref C,data:=.fields #[.ref h.objs.size,.none,.none,.none,.bool false,.none] }:=by heap_get
 have hcC:(Value.ref C::bm).contains (.ref C)=true:=by simp
 unfold isInstance
 repeat (first | with_reducible refine wpAny_loadPart_at hget ?_ | (with_reducible refine wpAny_isSubtype_exc hC₁ ?_;rw [hcC]) | wp_step)
 show wpAny _ _ (typeLookup (.ref C) _) _ _ _
 refine hL _ _ _ _ kp ?_
 refine wpAny_holding (wpAny_bind (hb _ _ _ _ _ kp ?_))
 refine wpAny_bind (wpAny_mono (hq _ ⟨kp,Heap.get?_none_of_le (Nat.le_succ _),h.objs.size,hget,Heap.get?_none_of_le (Nat.le_refl _),?_⟩) (λ r s' hr=>?_) λ _ _ x=>x)
 ·exact Heap.get?_push_of_some _ (Heap.get?_push_at rfl rfl)
 ·obtain ⟨rfl,hQ⟩:=hr
  wp_walk
  exact hQ
theorem own_call (F:ExcBaseFacts B newId initId bmB) (T:Over bmB bm) {rest:List Value}{fI:Addr}{R:Result→Shared→Prop}
  (hC:h.get? C=some (excClassObj nm q C N bs bm hdct sn sub ab col dd k0 k1 k2 k3 k5 newId)) (hL:Looks (model prog w) h (typeLookup (.ref C) "__init__") (some (.ref fI))) (hb:∀ e,Looks (model prog w) h (bindSpecial (.ref fI) (.ref e)) (.ref fI,[.ref e]))
  (hq:∀ h',Heap.MadeExcOf h h' (h.objs.size + 1) (.ref C) rest →
   codeAny (model prog w) (A.under (.builtin "type.__call__" ⟨.ref C::rest,[]⟩)) (.call (.ref fI) ⟨.ref (h.objs.size + 1)::rest,[]⟩) (λ r s'=>match r with | .ok (.ret v)=>v=.none∧R (.ok (.ret (.ref (h.objs.size + 1)))) s' | _=>False) ⟨h',g,d,t,os⟩) (hrest:rest.length≤sizeLine) :
  codeAny (model prog w) A (.call (.ref C) ⟨rest,[]⟩) R ⟨h,g,d,t,os⟩:=by
 have f1:=tc_lookup
 have f2:=tc_bind (.ref C)
 have hT:(⟨h,g,d,t,os⟩:Shared).TypeIs (.ref C) "type" := ⟨_,hC,rfl⟩
 refine codeAny_of_tree ?_
 show wpAny _ _ (callAny (.ref C) _) _ _ _
 repeat (any_goals (first | assumption | with_reducible refine wpAny_loadPart_at hC ?_ | wp_step))
 refine ⟨rfl,?_⟩
 refine codeAny_call_builtin_at (Code.quiet_builtin _ (by decide +kernel)) entry_typeCall (wpAny_check_type_call_sub hC (own_type_call F T hC hL hb (λ h' hm=>?_) hrest))
 refine wpAny_call (codeAny_mono (hq h' hm) λ r s' z=>?_)
 cases r with
 | error e=>exact z.elim
 | ok f=>cases f<;>exact z
end
end
section
open Builtin Builtin.ObjectAttr
structure FactsF (K:Frag):Prop where
 cls:∃ cd,clsIn K 122=some cd∧cd.mro=[.ref 122,.ref 97,.type "Exception",.type "BaseException",.type "object"]∧cd.hasDict=true
 set:findIn K (.ref 122) "__setattr__" = some (some (.builtin "object.__setattr__"))
 what:takerIn K 122 "what" = some none
 at_:takerIn K 122 "at" = some none
section
variable {prog:Program}{w:World}{A:Around}{E:Value→Shared→Prop}{s:Shared}{K:Frag}{R:Result→Shared→Prop}{h₀:Heap}{L e:Addr}{m:Str→Option Value}{led:Led}{name:Str}{v:Value}{vs:Array Value}{sl:Array (Option Value)}
theorem xsa_open {ox:Obj}{od:Option Obj}{tk:Tok}(FF:FactsF K) (X:K.In s.heap) (I:InstAt s.heap e ox 122 od) (ht:takerIn K 122 name=some none)
  (h:∀ b,wpAny (model prog w) A.in1 (Builtin.ObjectAttr.storeInOwnDict (.ref e) (.ref 122) (.str name tk) name v b)
   (λ fin s'=>match fin with | .done f=>R (.ok f) s' | .again c'=>c'.quiet=true∧codeAny (model prog w) A c' R s') (λ e s'=>R (.error e) s') s) :
  codeAny (model prog w) A (.call (.builtin "object.__setattr__") ⟨[.ref e,.str name tk,v],[]⟩) R s:=by
 have SF:=PySem.F.store_object
 obtain ⟨cd,hc,ho,_⟩:=FF.cls
 have sub:Looks (model prog w) s.heap (isInstance (.ref e) (.type "object")) true:=I.type.andThen (looks_mroIn X (by unfold mroIn;rw [hc,Option.bind_some,ho];rfl))
 refine codeAny_call_builtin SF.slot.plain SF.entry (@check_slot (model prog w) _ _ s "object.__setattr__" "object" "__setattr__" (.ref e) [.str name tk,v] [] _ SF.kind SF.split sub (SF.args (.ref e) (.str name tk) v) ?_)
 obtain ⟨attr,ha,hr⟩:=Option.bind_eq_some_iff.mp ht
 have hm:Looks (model prog w) s.heap (mroOf (.ref 122)) cd.mro:=(looks_clsIn X hc).andThen .now
 have L3:Looks (model prog w) s.heap (storeTaker? attr) none:=by
  cases attr with
  | none=>exact .now
  | some a=>
   obtain ⟨b,hb,hb'⟩:=Option.map_eq_some_iff.mp hr
   refine (looks_takesIn X hb).andThen ?_
   cases b
   ·exact .now
   ·cases hb'
 rw [osa_eq,refuse_eq]
 refine wpAny_bind (wpAny_bind (I.type.here (wpAny_bind (hm.here ?_))))
 rw [ho,refuseLoop_ref,refuseLoop_ref,PySem.F.store_Exception.passes]
 refine wpAny_pure (wpAny_bind (I.type.here (wpAny_bind ((looks_findIn X ha).here (wpAny_bind (L3.here ?_))))))
 exact h _
theorem st_tail {dx:Addr}{es:List DictEntry}{n:Nat}{tk:Tok}{pre post:Led}{G:Fin→Shared→Prop}(F:Fr h₀ L s.heap m) (N:News h₀ L s.heap (pre++(dx,dictOf es n)::post)) (hl:(getL name es).isSome=true) (h1:∀ p∈pre,p.1≠dx) (h2:∀ p∈post,p.1≠dx)
  (hz:(putL name (PyData.keyHash w.params name) (.str name s.toks) v es).length≤1000)
  (h:∀ h',Fr h₀ L h' m→News h₀ L h' (pre++(dx,dictOf (putL name (PyData.keyHash w.params name) (.str name s.toks) v es) (putN name es n))::post)→G (.done (.ret .none)) { s with heap:=h',toks:=s.toks + 1 }) :
  wpAny (model prog w) A (storeInDict dx (.str name tk) name v) G E s:=by
 obtain ⟨U1,U2⟩:=news_upd (f:=Obj.putName name (PyData.keyHash w.params name) (.str name s.toks) v) F N h1 h2 (putName_dict _ _ _ _ _ _) rfl
 have D:=(N (dx,dictOf es n) (by simp)).1
 have D':=(U2 (dx,dictOf (putL name (PyData.keyHash w.params name) (.str name s.toks) v es) (putN name es n)) (by simp)).1
 have hl:(lookIn name (dictOf es n)).isSome=true:=by
  rw [lookIn_dict]
  cases q:getL name es with
  | none=>rw [q] at hl;cases hl
  | some r=>rfl
 refine wpAny_bind (wpAny_pure (wpAny_bind ?_))
 unfold nsSet
 refine wpAny_bind (wpAny_bind (wpAny_askSetting (wpAny_pure (wpAny_bind (wpAny_mkText (wpAny_bind (wpAny_loadPart D ?_)))))))
 unfold lookIn at hl
 dsimp only [dictOf] at hl ⊢
 have c:(!es.toArray.any (·.key.isStr name) && es.toArray.any (·.refKey))=false:=by
  rw [← Array.any_toList,← Array.any_toList]
  split at hl
  ·rename_i en he
   rw [List.any_eq_true.mpr ⟨en,List.mem_of_find?_eq_some he,List.find?_some he⟩];rfl
  ·split at hl
   ·cases hl
   ·rename_i z;rw [Bool.not_eq_true] at z;rw [z,Bool.and_false]
 rw [aRefKeyMayBeTheName_at,c]
 refine wpAny_updatePart D ?_
 refine wpAny_bind (wpAny_lookBehind D' (pastItsLine_dict (by rw [List.size_toArray,sizeLine_eq];omega)) ?_)
 exact wpAny_pure (h _ U1 U2)
theorem xs_first {Q:Unit→Shared→Prop}(FF:FactsF K) (F:Fr h₀ L s.heap m) (X₀:K.In h₀) (N:News h₀ L s.heap ((e,⟨.ref 122,none,.fields vs,sl⟩)::led)) (hne:∀ p∈led,p.1≠e) (ht:takerIn K 122 name=some none)
  (h:∀ d h' t tk n,Fr h₀ L h' m→News h₀ L h' ((e,⟨.ref 122,some d,.fields vs,sl⟩)::(d,dictOf [⟨PyData.keyHash w.params name,.str name t,v⟩] n)::led)→(∀ p∈led,p.1 < d)→e < d→Q () { s with heap:=h',toks:=tk }) :
  wpAny (model prog w) A (setAttr (.ref e) name v) Q E s:=by
 have X:=X₀.keeps F.keep
 have he:=(N _ (.head _)).1
 have I:InstAt s.heap e ⟨.ref 122,none,.fields vs,sl⟩ 122 none:=⟨he,rfl,rfl,trivial⟩
 refine set_plain X I FF.set (xsa_open (s:={ s with toks:=s.toks + 1 }) FF X I ht λ b=>?_)
 obtain ⟨cd,hc,ho,hd⟩:=FF.cls
 refine wpAny_bind (wpAny_pure (wpAny_bind (wpAny_bind (wpAny_loadPart he (wpAny_bind (looks_clsIn X hc _ _ _ _ (λ _ _ e=>e) ?_))))))
 rw [hd,if_neg (by decide)]
 dsimp only
 rw [if_neg (by decide)]
 have he₁:(s.heap.push { cls:=.type "dict",data:=.dict #[] }).get? e=some ⟨.ref 122,none,.fields vs,sl⟩:=Heap.get?_push_of_some _ he
 refine wpAny_bind (wpAny_alloc' (wpAny_bind (wpAny_update' he₁ (wpAny_pure ?_))))
 dsimp only
 have hlt:e < s.heap.objs.size:=Heap.lt_size he
 let h₂:=(s.heap.push { cls:=.type "dict",data:=.dict #[] }).update e λ o=>{ cls:=o.cls,dict:=some s.heap.objs.size,data:=o.data,slots:=o.slots }
 have hgd:h₂.get? s.heap.objs.size=some (dictOf [] 0):=(Heap.get?_update_ne _ _ _ _ (Nat.ne_of_gt hlt)).trans (Heap.get?_push_at rfl rfl)
 have N₁:News h₀ L (s.heap.push { cls:=.type "dict",data:=.dict #[] }) ([]++(e,⟨.ref 122,none,.fields vs,sl⟩)::((s.heap.objs.size,dictOf [] 0)::led)):=λ q hq=>by
  have N':=N.push F (dictOf [] 0)
  rcases List.mem_cons.mp hq with rfl | hq
  ·exact N' _ (.tail _ (.head _))
  ·rcases List.mem_cons.mp hq with rfl | hq
   ·exact N' _ (.head _)
   ·exact N' _ (.tail _ (.tail _ hq))
 obtain ⟨F₂,N₂⟩:=news_upd (o':=⟨.ref 122,some s.heap.objs.size,.fields vs,sl⟩) (f:=λ o=>{ cls:=o.cls,dict:=some s.heap.objs.size,data:=o.data,slots:=o.slots }) (F.push { cls:=.type "dict",data:=.dict #[] }) N₁ (λ _ h=>nomatch h) (λ q hq=>by
  rcases List.mem_cons.mp hq with rfl | hq
  ·exact Nat.ne_of_gt hlt
  ·exact hne q hq) rfl rfl
 have hd2:∀ q∈led,q.1 < s.heap.objs.size:=λ q hq=>Heap.lt_size (N q (.tail _ hq)).1
 refine st_tail (s:={ s with heap:=h₂,toks:=s.toks + 1 }) (pre:=[(e,⟨.ref 122,some s.heap.objs.size,.fields vs,sl⟩)]) (es:=[]) (n:=0) F₂ N₂ rfl (λ q hq=>by
  rw [List.mem_singleton.mp hq];exact Nat.ne_of_lt hlt) (λ q hq=>Nat.ne_of_lt (hd2 q hq)) (by show (List.length ([_]:List DictEntry))≤1000;simp) λ h' F' N'=>?_
 exact h _ h' _ _ _ F' N' hd2 hlt
theorem xs_next {Q:Unit→Shared→Prop}{d:Addr}{es:List DictEntry}{n:Nat}(FF:FactsF K) (F:Fr h₀ L s.heap m) (X₀:K.In h₀) (N:News h₀ L s.heap ((e,⟨.ref 122,some d,.fields vs,sl⟩)::(d,dictOf es n)::led)) (hed:e≠d) (hne:∀ p∈led,p.1≠d) (ht:takerIn K 122 name=some none)
  (hl:(getL name es).isSome=true) (hz:∀ t,(putL name (PyData.keyHash w.params name) (.str name t) v es).length≤1000)
  (h:∀ h' t tk n',Fr h₀ L h' m→News h₀ L h' ((e,⟨.ref 122,some d,.fields vs,sl⟩)::(d,dictOf (putL name (PyData.keyHash w.params name) (.str name t) v es) n')::led)→Q () { s with heap:=h',toks:=tk }) :
  wpAny (model prog w) A (setAttr (.ref e) name v) Q E s:=by
 have X:=X₀.keeps F.keep
 have he:=(N _ (.head _)).1
 have I:InstAt s.heap e ⟨.ref 122,some d,.fields vs,sl⟩ 122 (some (dictOf es n)):=⟨he,rfl,rfl,(N _ (.tail _ (.head _))).1⟩
 refine set_plain X I FF.set (xsa_open (s:={ s with toks:=s.toks + 1 }) FF X I ht λ b=>?_)
 obtain ⟨cd,hc,ho,hd⟩:=FF.cls
 refine wpAny_bind (wpAny_pure (wpAny_bind (wpAny_bind (wpAny_loadPart he (wpAny_bind (looks_clsIn X hc _ _ _ _ (λ _ _ e=>e) ?_))))))
 rw [hd,if_neg (by decide)]
 refine wpAny_pure ?_
 exact st_tail (s:={ s with toks:=s.toks + 1 }) (pre:=[(e,⟨.ref 122,some d,.fields vs,sl⟩)]) F N hl (λ q hq=>by
  rw [List.mem_singleton.mp hq];exact hed) hne (hz _) λ h' F' N'=>h h' _ _ _ F' N'
end
end
section
open Builtin Builtin.ObjectAttr
section
variable {prog:Program}{w:World}{M:Model}{A:Around}{E:Value→Shared→Prop}{h:Heap}{g:Array GenState}{d:Drawn}{t:Nat}{os:OsState}
variable {nm q:Str}{C N:Addr}{bs bm bmB:List Value}{hdct:Bool}{sn:List Str}{sub:List Value}{ab:Bool}{col:Option Bool}{dd:Option Addr}{k0 k1 k2 k3 k5:Option Value}{B newId initId:String}
theorem zky (F:ExcBaseFacts B newId initId bmB) (T:Over bmB bm) {e:Addr}{oe:Obj}{rest:List Value}{Q:Unit→Shared→Prop}
  (hC:h.get? C=some (excClassObj nm q C N bs bm hdct sn sub ab col dd k0 k1 k2 k3 k5 newId)) (he:h.get? e=some oe) (hcls:oe.cls=.ref C) (hq:Q () ⟨h,g,d,t,os⟩) :
  wpAny M A (checkBuiltinCall initId ⟨.ref e::rest,[]⟩) Q E ⟨h,g,d,t,os⟩:=by
 have h1:=zkl (C:=C) T F.hasB
 have h2:=F.noStar
 simp only [checkBuiltinCall,F.initKind,F.initSplit,F.initRow]
 repeat (first | (with_reducible refine wpAny_loadPart_at he ?_;rw [hcls]) | with_reducible refine wpAny_loadPart_at hC ?_ | (with_reducible refine wpAny_isSubtype_exc hC ?_;rw [h1]) | wp_step)
 refine wpAny_onRaise ?_
 rw [show ∀ (a b:String) (n:Nat),Bind.check ⟨.positional, "*",B,.self,[⟨"args",.varPos,false⟩]⟩ a b n (List.map (λ x=>x.fst) ({ pos:=Value.ref e::rest }:Args).kw)=pure () from
  λ a b n=>check_star_args _ _ _ _ _ _]
 exact wpAny_pure hq
theorem own_init (F:ExcBaseFacts B newId initId bmB) (T:Over bmB bm) {e t0:Addr}{v:Value}{Q:Value→Shared→Prop}
  (hC:h.get? C=some (excClassObj nm q C N bs bm hdct sn sub ab col dd k0 k1 k2 k3 k5 newId)) (he:h.get? e=some { cls:=.ref C,data:=.fields #[.ref t0,.none,.none,.none,.bool false,.none] })
  (hq:Q .none ⟨(h.push { cls:=.type "tuple",data:=.seq #[v] }).update e (Obj.mapFields (·.setIfInBounds 0 (.ref h.objs.size))),g,d,t,os⟩) :
  wpAny (model prog w) A (call (.builtin initId) [.ref e,v]) Q E ⟨h,g,d,t,os⟩:=by
 have he₁:=Heap.get?_push_of_some { cls:=.type "tuple",data:=.seq #[v] } he
 refine wpAny_call (codeAny_call_builtin F.init.plain F.initEntry (zky F T hC he rfl ?_))
 wp_walk
 exact hq
end
inductive InitEx (K:Frag):Prop
 | mk (qual params dV kV doc pm an cdv ct oc od osl):K.lookup 87=some ⟨oc,od,.func (fnX "__init__" qual params (metD 12 0).2.2.1 (metD 12 0).2.2.2 [] dV kV doc pm an cdv ct),osl⟩→codeIn K cdv qual=true→(∀ (v1 v2 v3:Value) S,peek K S (bindArgs (fnX "__init__" qual params (metD 12 0).2.2.1 (metD 12 0).2.2.2 [] dV kV doc pm an cdv ct) ⟨[v1,v2,v3],[]⟩)=some [(("self":Str),v1),(("what":Str),v2),(("at":Str),v3)])→InitEx K
inductive ClsEx (K:Frag):Prop
 | mk (nm q N bs hdct sn sub ab col dd k0 k1 k2 k3 k5):K.lookup 122=some (excClassObj nm q 122 N bs [.ref 97,.type "Exception",.type "BaseException",.type "object"] hdct sn sub ab col dd k0 k1 k2 k3 k5 "Exception.__new__")→ClsEx K
structure FactsI (K:Frag) (P:Params):Prop where
 FF:FactsF K
 ex:InitEx K
 exc:nsIn K mainGlobals "Exception" = some none
 ini:findCls K (.type "Exception") (.type "type") "__init__" = some (.val (.builtin "Exception.__init__"))
 cls:ClsEx K
 ifn:findIn K (.ref 122) "__init__" = some (some (.ref 87))
 isf:typeIn K (.ref 87)=some (.type "function")
noncomputable abbrev bmE:List Value:=[.type "Exception",.type "BaseException",.type "object"]
theorem over_e:Over bmE [.ref 97,.type "Exception",.type "BaseException",.type "object"]:=λ X b e=>by
 rw [List.contains_cons]
 rw [show (Value.type X == Value.ref 97)=false from rfl,Bool.false_or]
 exact e
section
variable {prog:Program}{w:World}{A:Around}{s:Shared}{K:Frag}{c:Cx}{m:Str→Option Value}{led:Led}{p:Program}{loose:List Str}{mg mb:Str→Option Value}{n:Nat}
set_option maxHeartbeats 4000000 in
theorem body87 {g:Heap}{L':Addr}{qual:Str}{sc:Scope}{cdv:Value}{e t0:Addr}{wv av:Value}{s:Shared}{Q:Flow→Shared→Prop}{E:Value→Shared→Prop}{a1 a2 a3 a4 a5 a6 b1 b2 b3 b4 c1 c2 c3 c4:Pos}(FI:FactsI K w.params) (X':K.In g) (T':TopRead p loose mg mb g)
  (hA:A.frames=some (c.env::c.outer)) (hps:a2.endLine=a5.line) (hk:sc.kind=.function) (hE:sc.names.lookup ("Exception":Str)=some .globalImplicit) (hs:sc.names.lookup ("self":Str)=some .local) (hw:sc.names.lookup ("what":Str)=some .local) (ha:sc.names.lookup ("at":Str)=some .local)
  (F':Fr g L' s.heap (λ y=>[(("self":Str),Value.ref e),(("what":Str),wv),(("at":Str),av)].reverse.lookup y))
  (N':News g L' s.heap ((e,{ cls:=.ref 122,data:=.fields #[.ref t0,.none,.none,.none,.bool false,.none] })::led)) (hne:∀ q∈led,q.1 < e)
  (h:∀ h' tk d n t1 t2 vs,Fr g L' h' (λ y=>[(("self":Str),Value.ref e),(("what":Str),wv),(("at":Str),av)].reverse.lookup y)→News g L' h' ((e,⟨.ref 122,some d,.fields vs,#[]⟩)::(d,dictOf [⟨PyData.keyHash w.params "what",.str "what" t1,wv⟩,⟨PyData.keyHash w.params "at",.str "at" t2,av⟩] n)::led) →
   vs[1]? = some .none→(∀ q∈led,q.1 < d)→e < d→Q .next { s with heap:=h',toks:=tk }) :
  wpAny (model prog w) (A.deeper (envX qual sc L' 87 cdv [])) (execs [Stmt.Expr (PySem.Expr.Call (PySem.Expr.Attribute (PySem.Expr.Name "Exception" a1) "__init__" a2) [PySem.Expr.Name "self" a3,PySem.Expr.Name "what" a4] [] a5) a6,
   Stmt.Assign [PySem.Expr.Attribute (PySem.Expr.Name "self" b1) "what" b2] (PySem.Expr.Name "what" b3) b4,Stmt.Assign [PySem.Expr.Attribute (PySem.Expr.Name "self" c1) "at" c2] (PySem.Expr.Name "at" c3) c4] (envX qual sc L' 87 cdv [])) Q E s:=by
 obtain ⟨hp,gs,dr,tk,os⟩:=s
 obtain ⟨nm,q,NN,bs,hdct,sn,sub,ab,col,dd,k0',k1',k2',k3',k5',hcls⟩:=FI.cls
 have hEx:∀ {Q:Value→Shared→Prop}{E:Value→Shared→Prop}{pos:Pos}{t:Shared},Fr g L' t.heap (λ y=>[(("self":Str),Value.ref e),(("what":Str),wv),(("at":Str),av)].reverse.lookup y)→Q (.type "Exception") t→wpAny (model prog w) (A.deeper (envX qual sc L' 87 cdv [])) (eval (.Name "Exception" pos) (envX qual sc L' 87 cdv [])) Q E t:=
  λ F hq=>nameX_B F X' T' FI.exc rfl (by decide) hq hk hE (by decide)
 have hVar:∀ {x:Str}{v:Value}{Q:Value→Shared→Prop}{E:Value→Shared→Prop}{pos:Pos}{t:Shared},(x = "self" ∧ v=.ref e)∨(x = "what" ∧ v=wv)∨(x = "at" ∧ v=av)→Fr g L' t.heap (λ y=>[(("self":Str),Value.ref e),(("what":Str),wv),(("at":Str),av)].reverse.lookup y)→Q v t→wpAny (model prog w) (A.deeper (envX qual sc L' 87 cdv [])) (eval (.Name x pos) (envX qual sc L' 87 cdv [])) Q E t:=by
  intro x v Q E pos t hx F hq
  rcases hx with ⟨rfl,rfl⟩ | ⟨rfl,rfl⟩ | ⟨rfl,rfl⟩
  ·exact nameX_L F rfl hq hk hs (by decide)
  ·exact nameX_L F rfl hq hk hw (by decide)
  ·exact nameX_L F rfl hq hk ha (by decide)
 have hAs:∀ {attr x:Str}{v:Value}{q1 q2 q3 q4:Pos}{Q:Flow→Shared→Prop}{E:Value→Shared→Prop}{t:Shared},(x = "what" ∧ v=wv)∨(x = "at" ∧ v=av)→Fr g L' t.heap (λ y=>[(("self":Str),Value.ref e),(("what":Str),wv),(("at":Str),av)].reverse.lookup y) →
   wpAny (model prog w) (A.deeper (envX qual sc L' 87 cdv [])) (setAttr (.ref e) attr v) (λ _=>Q .next) E t →
   wpAny (model prog w) (A.deeper (envX qual sc L' 87 cdv [])) (exec (Stmt.Assign [PySem.Expr.Attribute (PySem.Expr.Name "self" q1) attr q2] (PySem.Expr.Name x q3) q4) (envX qual sc L' 87 cdv [])) Q E t:=by
  intro attr x v q1 q2 q3 q4 Q E t hx F hq
  rw [exec_Assign_arm]
  have hsole:swapsWithSole [PySem.Expr.Attribute (PySem.Expr.Name "self" q1) attr q2] (PySem.Expr.Name x q3) q4.line (envX qual sc L' 87 cdv [])=pure false:=rfl
  have hsw:swappedStores [PySem.Expr.Attribute (PySem.Expr.Name "self" q1) attr q2] (PySem.Expr.Name x q3) (envX qual sc L' 87 cdv [])=pure none:=zxg rfl
  rw [hsole,hsw]
  refine wpAny_bind (wpAny_standAt (wpAny_bind (wpAny_pure ?_)))
  rw [if_neg (by decide)]
  refine wpAny_bind (hVar (v:=v) (hx.elim (λ h=>.inr (.inl h)) λ h=>.inr (.inr h)) F ?_)
  refine wpAny_bind (wpAny_pure ?_)
  show wpAny _ _ (do (do
   let ov ← holding [v] (eval (PySem.Expr.Name "self" q1) (envX qual sc L' 87 cdv []))
   standAt q2.atName
   holding [v,ov] (setAttr ov attr v)
   release [v,ov] []);pure Flow.next) _ _ _
  refine wpAny_bind (wpAny_bind (wpAny_holding (hVar (v:=.ref e) (.inl ⟨rfl,rfl⟩) F ?_)))
  refine wpAny_bind (wpAny_standAt (wpAny_bind (wpAny_holding (wpAny_mono hq (λ _ _ h=>?_) λ _ _ h=>h))))
  exact λ Γ p hΓ=>by rw [Sem.wp_release];exact wpAny_pure h
 rw [execs_cons]
 refine wpAny_bind ?_
 rw [exec_Expr _ _ _ (by show (sc.kind == .module && _)=false;rw [hk];rfl) (zxa rfl)]
 refine wpAny_bind (wpAny_standAt (wpAny_bind ?_))
 rw [arm_eval_Call,zzh rfl]
 refine wpAny_bind (hEx F' (wpAny_bind (wpAny_standAt ?_)))
 unfold methodCall
 refine wpAny_bind (wpAny_holding ?_)
 show wpAny _ _ (getMethod (.type "Exception") "__init__" _) _ _ _
 refine method_type F' X' (by kernel_rfl) (by decide +kernel) FI.ini rfl ?_
 dsimp only
 have hpos:∀ n,methodCallPos (methodCallForm n (backTo a5 (starEach [PySem.Expr.Name "self" a3,PySem.Expr.Name "what" a4] (envX qual sc L' 87 cdv []))) (backToKw a5 (keywordEach [] (envX qual sc L' 87 cdv [])))) (PySem.Expr.Name "Exception" a1) (envX qual sc L' 87 cdv []) a2 a5=pure a5:=λ n=>by
  unfold methodCallPos
  rw [if_pos (by rw [hps];simp)]
 rw [hpos]
 refine wpAny_bind (wpAny_pure ?_)
 refine PySem.Calls.callWith_builtin rfl (evalArgs_plain (spliced_cons (hVar (v:=.ref e) (.inl ⟨rfl,rfl⟩) F' (spliced_cons (hVar (v:=wv) (.inr (.inl ⟨rfl,rfl⟩)) F' (spliced_nil ?_))))))
 have hC:=X'.keeps F'.keep _ _ hcls
 have he:=(N' _ (.head _)).1
 refine own_init PySem.F.excBase_Exception over_e hC he ?_
 have F₁:=F'.push { cls:=.type "tuple",data:=.seq #[wv] }
 have N₁:News g L' (hp.push { cls:=.type "tuple",data:=.seq #[wv] }) ([]++(e,{ cls:=.ref 122,data:=.fields #[.ref t0,.none,.none,.none,.bool false,.none] })::led):=λ q hq=>⟨Heap.get?_push_of_some _ (N' q hq).1,(N' q hq).2⟩
 obtain ⟨F₂,N₂⟩:=news_upd (o':={ cls:=.ref 122,data:=.fields #[.ref hp.objs.size,.none,.none,.none,.bool false,.none] }) (f:=Obj.mapFields (·.setIfInBounds 0 (.ref hp.objs.size))) F₁ N₁ (λ _ h=>nomatch h) (λ q hq=>Nat.ne_of_lt (hne q hq)) rfl rfl
 refine wpAny_dropValue ?_
 rw [execs_cons]
 refine wpAny_bind (hAs (v:=wv) (.inl ⟨rfl,rfl⟩) F₂ (xs_first FI.FF F₂ X' N₂ (λ q hq=>Nat.ne_of_lt (hne q hq)) FI.FF.what λ d h' t tk n F₃ N₃ l1 l2=>?_))
 rw [execs_cons]
 refine wpAny_bind (hAs (v:=av) (.inr ⟨rfl,rfl⟩) F₃ (xs_next FI.FF F₃ X' N₃ (Nat.ne_of_lt l2) (λ q hq=>Nat.ne_of_lt (l1 q hq)) FI.FF.at_ rfl (λ t=>by show (List.length ([_,_]:List DictEntry))≤1000;simp) λ h'' t' tk' n' F₄ N₄=>?_))
 exact wpAny_execs_nil (h _ _ d n' t t' _ F₄ N₄ rfl l1 l2)
set_option maxHeartbeats 4000000 in
theorem call87 {e t0:Addr}{wv av:Value}(FI:FactsI K w.params) (Y:Ok p loose mg mb K c n) (hA:A.frames=some (c.env::c.outer)) (hh:A.handled=none) (hdep:A.depth < recursionLimit) (F:Fr c.h₀ c.L s.heap m)
  (N:News c.h₀ c.L s.heap ((e,{ cls:=.ref 122,data:=.fields #[.ref t0,.none,.none,.none,.bool false,.none] })::led)) (hne:∀ q∈led,q.1 < e) :
  codeAny (model prog w) A (.call (.ref 87) ⟨[.ref e,wv,av],[]⟩) (λ r s'=>match r with
   | .ok (.ret v)=>v=.none∧(s'.os,s'.gens,s'.drawn)=(s.os,s.gens,s.drawn)∧∃ d n t1 t2 vs,Fr c.h₀ c.L s'.heap m∧News c.h₀ c.L s'.heap ((e,⟨.ref 122,some d,.fields vs,#[]⟩)::(d,dictOf [⟨PyData.keyHash w.params "what",.str "what" t1,wv⟩,⟨PyData.keyHash w.params "at",.str "at" t2,av⟩] n)::led)∧vs[1]? = some .none∧(∀ q∈led,q.1 < d)∧e < d
   | _=>False) s:=by
 obtain ⟨qual,params,dV,kV,doc,pm,an,cdv,ct,oc,od,osl,k1,k2,k3⟩:=FI.ex
 obtain ⟨nm,q,NN,bs,hdct,sn,sub,ab,col,dd,k0',k1',k2',k3',k5',hcls⟩:=FI.cls
 have hXs:K.In s.heap:=Y.X.keeps F.keep
 refine callX_plain (env:=c.env) Y.B F N Y.T.nolimit hA rfl Y.kf (hXs _ _ k1) rfl (codeRec_of hXs k2) hdep
  (kp_binds hXs (λ S=>k3 _ _ _ S)) (λ y hy=>?_) (λ g L' h₁ FG F' N' B' st lt=>?_) (by decide +kernel) rfl rfl rfl
 ·rcases List.mem_cons.mp hy with rfl | hy
  ·rfl
  ·rcases List.mem_cons.mp hy with rfl | hy
   ·rfl
   ·rw [List.mem_singleton.mp hy];rfl
 ·refine body87 (c:=c) FI (Y.X.keeps st) (Y.T.keeps st) hA rfl rfl rfl rfl rfl rfl F' N' hne λ h' tk d n t1 t2 vs F₂ N₂ hv l1 l2=>?_
  exact leaveK_ F₂ N₂ λ F N=>⟨rfl,rfl,d,n,t1,t2,vs,F,N,hv,l1,l2⟩
end
end
section
section
variable {prog:Program}{w:World}{K:Frag}{ti:List TabI}{fr:Led}{U:SubP}{c:Cx}{RX:Cx→Led→Int→Value→Shared→Prop}{O:Out}
 {σ:St}{ad:List Ad}{own tb fz:Led}{m:Str→Option Value}{s:Shared}{p:Program}{loose:List Str}{mg mb:Str→Option Value}
theorem prim_fault {n:Nat}{x:Str}{v:Int}{vs:List Value}(FI:FactsI K w.params) (Y:Ok p loose mg mb K c (n + 2)) (I:Inv U K w.params ti fr c σ ad own tb fz m s) (hv:VRs K w.params ad fz [.str x,.tup [.int 3,.int v]] vs) :
  SdV (model prog w) U K w.params ti fr RX c ad fz m (.call (.ref 122) ⟨vs,[]⟩) (ok (.hnd σ.ho.length) { σ with ho:=σ.ho++[.exn (.tup [.int 3,.int v])] }) s:=by
 replace hv:=hv.inv;cases hv with | cons h1 h2=>
 replace h2:=h2.inv;cases h2 with | cons h2 h3=>
 replace h3:=h3.inv;cases h3
 rename_i wv av
 obtain ⟨hp,g,d,tk,os⟩:=s
 obtain ⟨nm,q,NN,bs,hdct,sn,sub,ab,col,dd,k0',k1',k2',k3',k5',hcls⟩:=FI.cls
 have X:K.In hp:=Y.X.keeps I.F.keep
 show codeAny _ _ _ _ _
 refine own_call PySem.F.excBase_Exception over_e (X _ _ hcls) (looks_findIn X FI.ifn) (λ e=>bind_fn X _ FI.isf) (λ h' hm=>?_) (by rw [sizeLine_eq];simp)
 obtain ⟨t,ht,_,_⟩:=hm.there
 have hlt:c.L < hp.objs.size + 1:=Nat.lt_succ_of_lt I.F.ns.lt
 have F':=I.F.keeps hm.keeps
 have N':News c.h₀ c.L h' ((hp.objs.size + 1,{ cls:=.ref 122,data:=.fields #[.ref t,.none,.none,.none,.bool false,.none] })::(own++(tb++(fr++fz)))):=λ q hq=>by
  rcases List.mem_cons.mp hq with rfl | hq
  ·exact ⟨ht,Nat.ne_of_gt hlt,Heap.get?_none_of_le (Nat.le_trans I.F.above (Nat.le_of_lt hlt))⟩
  ·exact ⟨hm.keeps _ _ (I.N q hq).1,(I.N q hq).2⟩
 have hne:∀ q∈own++(tb++(fr++fz)),q.1 < hp.objs.size + 1:=λ q hq=>Nat.lt_succ_of_lt (I.lt q hq)
 refine codeAny_mono (call87 (A:=c.A.under (.builtin "type.__call__" ⟨.ref 122::[wv,av],[]⟩)) FI Y Y.hA Y.hh (by have:=Y.dep;show c.A.depth + 1 < 1000;omega) F' N' hne) λ r s' z=>?_
 cases r with
 | error e=>exact z.elim
 | ok f=>
  cases f with
  | ret u=>
   obtain ⟨rfl,hog,d,n,t1,t2,vs,F₂,N₂,e1,e2,e3⟩:=z
   refine ⟨rfl,ad++[Ad.of (hp.objs.size + 1) d],own++[(hp.objs.size + 1,⟨.ref 122,some d,.fields vs,#[]⟩),(d,dictOf [⟨PyData.keyHash w.params "what",.str "what" t1,wv⟩,⟨PyData.keyHash w.params "at",.str "at" t2,av⟩] n)],tb,fz,⟨_,rfl⟩,λ _ h=>h,?_,?_⟩
   ·have I₁:=I.snoc (x:=Ad.of (hp.objs.size + 1) d) (o:=.exn (.tup [.int 3,.int v])) (e:=[(hp.objs.size + 1,⟨.ref 122,some d,.fields vs,#[]⟩),(d,dictOf [⟨PyData.keyHash w.params "what",.str "what" t1,wv⟩,⟨PyData.keyHash w.params "at",.str "at" t2,av⟩] n)]) (t:=s'.toks)
     (h':=s'.heap) (F:=F₂) (N:=N₂) (λ q hq r hr=>?_) (by simp [Nat.ne_of_lt e3]) (.exn (h2.mono ⟨_,rfl⟩ λ _ h=>h) h1.handed e1)
    ·exact ⟨I₁.F,I₁.N,I₁.nd,I₁.ow,I₁.tb,I₁.lo,hog.trans I.og⟩
    ·rcases List.mem_cons.mp hr with rfl | hr
     ·exact Nat.ne_of_lt (hne q hq)
     ·rw [List.mem_singleton.mp hr];exact Nat.ne_of_lt (e2 q hq)
   ·exact VR.hnd (x:=Ad.of (hp.objs.size + 1) d) (by rw [← I.ow.length];simp)
  | _=>exact z.elim
end
end
section
section
variable {prog:Program}{w:World}{K:Frag}{ti:List TabI}{fr:Led}{U:SubP}{c:Cx}{RX:Cx→Led→Int→Value→Shared→Prop}{O:Out}
 {σ σ':St}{ad:List Ad}{own tb fz:Led}{m:Str→Option Value}{s:Shared}{p:Program}{loose:List Str}{mg mb:Str→Option Value}
noncomputable def Rn (O:Out):Rec:=⟨λ sc e σ=>Option.rec (bd (zjz e) λ _=>zke O bot sc e σ) (λ _=>zke O bot sc e σ) (zkm e),λ _ _ _=>none,λ _ _ _=>none,λ _ _ _ _=>none,λ _ _ _=>none⟩
theorem se_n {k:Nat}(FA:zqr K w.params O) (Y:Ok p loose mg mb K c k):SE prog w K ti fr U RX (Rn O) c:=by
 intro e σ ad own tb fz m s I
 show Sd _ _ _ _ _ _ _ _ _ _ _ _ (Option.rec (bd (zjz e) λ _=>zke O bot c.sc e σ) (λ _=>zke O bot c.sc e σ) (zkm e)) _
 cases q:zkm e with
 | some x=>rw [zzx q];exact sd_name FA Y I
 | none=>
  refine Sd.bd λ x h=>?_
  obtain ⟨k,p,rfl⟩:=oConst_e h
  exact Sd.lft λ a h=>sd_const I h
theorem zkh (hRX:RXm RX) {st:Stmt}{r:List Stmt}{q:Ou Fl}(h:Sd (model prog w) U K w.params ti fr RX c ad fz (FlR K w.params) (exec st c.env) (ok .next σ') s)
  (h2:∀ s' ad' own tb fz' m,Pre ad ad'→fz⊆fz'→Inv U K w.params ti fr c σ' ad' own tb fz' m s'→Sd (model prog w) U K w.params ti fr RX c ad' fz' (FlR K w.params) (execs r c.env) q s') :
  Sd (model prog w) U K w.params ti fr RX c ad fz (FlR K w.params) (execs (st::r) c.env) q s:=by
 rw [execs_cons]
 refine Sd.seq hRX h λ f s' ad₂ own₂ tb₂ fz₂ m₂ hp hf I₂ hb=>?_
 replace hb:=hb.inv;cases hb
 exact h2 _ _ _ _ _ _ hp hf I₂
theorem sd_last (hRX:RXm RX) {st:Stmt}{v:AV}(h:Sd (model prog w) U K w.params ti fr RX c ad fz (FlR K w.params) (exec st c.env) (ok (.ret v) σ') s) :
  Sd (model prog w) U K w.params ti fr RX c ad fz (FlR K w.params) (execs [st] c.env) (ok (.ret v) σ') s:=by
 rw [execs_cons]
 refine Sd.seq hRX h λ f s' ad₂ own₂ tb₂ fz₂ m₂ hp hf I₂ hb=>?_
 replace hb:=hb.inv;cases hb
 rename_i h
 exact Sd.ok I₂ (.ret h)
theorem zjy (hRX:RXm RX) {x:Str}{q pos:Pos}{e:PySem.Expr}{a:AV}(hk:c.sc.kind=.function) (hx:zqt c.sc x=true) (h1:zzt e=true)
  (h:Sd (model prog w) U K w.params ti fr RX c ad fz (VR K w.params) (eval e c.env) (ok a σ') s) :
  Sd (model prog w) U K w.params ti fr RX c ad fz (FlR K w.params) (exec (.Assign [.Name x q] e pos) c.env) (ok .next { σ' with loc:=zza x a σ'.loc }) s:=by
 rw [exec_Assign_arm]
 have hsole:swapsWithSole [.Name x q] e pos.line c.env=pure false:=zxa (t:=some (.Name x q)) (n:=pos.line) h1
 have hsw:swappedStores [.Name x q] e c.env=pure none:=zxg rfl
 rw [hsole,hsw]
 refine Sd.stand (Sd.wp (λ Q E h=>wpAny_bind (wpAny_pure h)) ?_)
 rw [if_neg (by decide)]
 refine Sd.seq hRX h λ va s₁ ad₁ own₁ tb₁ fz₁ m₁ _ _ I₁ ha=>?_
 refine Sd.wp (λ Q E h=>wpAny_bind (wpAny_pure h)) ?_
 show Sd _ _ _ _ _ _ _ _ _ _ _ (do assign (.Name x q) c.env va;pure Flow.next) _ _
 have hA:=zj9 (prog:=prog) (w:=w) (RX:=RX) (x:=x) (q:=q) hk I₁ ha
 unfold asLoc at hA
 rw [hx] at hA
 exact Sd.seq hRX hA λ _ s₁ ad₁ own₁ tb₁ fz₁ m₁ _ _ I₁ _=>Sd.ok I₁ .next
theorem sd_rete (hRX:RXm RX) {pos:Pos}{e:PySem.Expr}{a:AV}(h:Sd (model prog w) U K w.params ti fr RX c ad fz (VR K w.params) (eval e c.env) (ok a σ') s) :
  Sd (model prog w) U K w.params ti fr RX c ad fz (FlR K w.params) (exec (.Return (some e) pos) c.env) (ok (.ret a) σ') s:=by
 rw [exec_Return_some]
 exact Sd.stand (Sd.seq hRX h λ va s₁ ad₁ own₁ tb₁ fz₁ m₁ _ _ I₁ ha=>Sd.ok I₁ (.ret ha))
theorem zzv {k:Nat}{x:Str}{q:Pos}{a:AV}(FA:zqr K w.params O) (Y:Ok p loose mg mb K c k) (I:Inv U K w.params ti fr c σ ad own tb fz m s) (hx:zqt c.sc x=true) (hd:sB x "__debug__" = false) (hl:zqn x σ.loc=some a) :
  Sd (model prog w) U K w.params ti fr RX c ad fz (VR K w.params) (eval (.Name x q) c.env) (ok a σ) s:=by
 obtain ⟨v,h1,h2⟩:=(I.lo x a hl).1 (zx5 hx)
 exact nameX_L I.F h1 (.mk I h2) Y.kf (zx5 hx) (beq_eq_false_iff_ne.mpr (zz5.mp hd))
theorem sd_int {i:Int}{k:Nat}{q:Pos}(I:Inv U K w.params ti fr c σ ad own tb fz m s) :
  Sd (model prog w) U K w.params ti fr RX c ad fz (VR K w.params) (eval (.Constant (.int i) k q) c.env) (ok (.int i) σ) s:=sd_const I rfl
theorem sd_op2 (hRX:RXm RX) {l r:PySem.Expr}{op:Operator}{q:Pos}{a b v:AV}{σ₁ σ₂:St}(h1:Sd (model prog w) U K w.params ti fr RX c ad fz (VR K w.params) (eval l c.env) (ok a σ₁) s)
  (h2:∀ s' ad' own tb fz' m,Pre ad ad'→fz⊆fz'→Inv U K w.params ti fr c σ₁ ad' own tb fz' m s'→Sd (model prog w) U K w.params ti fr RX c ad' fz' (VR K w.params) (eval r c.env) (ok b σ₂) s')
  (h3:∀ va vb s' ad' own tb fz' m,Pre ad ad'→fz⊆fz'→Inv U K w.params ti fr c σ₂ ad' own tb fz' m s'→VR K w.params ad' fz' a va→VR K w.params ad' fz' b vb→Sd (model prog w) U K w.params ti fr RX c ad' fz' (VR K w.params) (binaryOp op va vb) (ok v σ₂) s') :
  Sd (model prog w) U K w.params ti fr RX c ad fz (VR K w.params) (eval (.BinOp l op r q) c.env) (ok v σ₂) s:=by
 rw [eval_BinOp]
 refine Sd.seq hRX h1 λ va s₁ ad₁ own₁ tb₁ fz₁ m₁ hp₁ hf₁ I₁ ha=>?_
 refine Sd.seq hRX (Sd.hold (h2 _ _ _ _ _ _ hp₁ hf₁ I₁)) λ vb s₂ ad₂ own₂ tb₂ fz₂ m₂ hp hf I₂ hb=>Sd.stand (Sd.oper ?_)
 exact h3 _ _ _ _ _ _ _ _ (hp₁.trans hp) (λ _ h=>hf (hf₁ h)) I₂ (ha.mono hp hf) hb
theorem sd_sub2 (hRX:RXm RX) {l r:PySem.Expr}{q:Pos}{a b v:AV}{σ₁ σ₂:St}(h1:Sd (model prog w) U K w.params ti fr RX c ad fz (VR K w.params) (eval l c.env) (ok a σ₁) s)
  (h2:∀ s' ad' own tb fz' m,Pre ad ad'→fz⊆fz'→Inv U K w.params ti fr c σ₁ ad' own tb fz' m s'→Sd (model prog w) U K w.params ti fr RX c ad' fz' (VR K w.params) (eval r c.env) (ok b σ₂) s')
  (h3:∀ va vb s' ad' own tb fz' m,Pre ad ad'→fz⊆fz'→Inv U K w.params ti fr c σ₂ ad' own tb fz' m s'→VR K w.params ad' fz' a va→VR K w.params ad' fz' b vb→Sd (model prog w) U K w.params ti fr RX c ad' fz' (VR K w.params) (subscriptTail l r va vb) (ok v σ₂) s') :
  Sd (model prog w) U K w.params ti fr RX c ad fz (VR K w.params) (eval (.Subscript l r q) c.env) (ok v σ₂) s:=by
 rw [eval_Subscript]
 refine Sd.seq hRX h1 λ va s₁ ad₁ own₁ tb₁ fz₁ m₁ hp₁ hf₁ I₁ ha=>?_
 refine Sd.seq hRX (Sd.hold (h2 _ _ _ _ _ _ hp₁ hf₁ I₁)) λ vb s₂ ad₂ own₂ tb₂ fz₂ m₂ hp hf I₂ hb=>Sd.stand ?_
 exact h3 _ _ _ _ _ _ _ _ (hp₁.trans hp) (λ _ h=>hf (hf₁ h)) I₂ (ha.mono hp hf) hb
end
end
section
section
variable {prog:Program}{w:World}{K:Frag}{ti:List TabI}{fr:Led}{U:SubP}{c:Cx}{RX:Cx→Led→Int→Value→Shared→Prop}{O:Out}
 {σ σ':St}{ad:List Ad}{own tb fz:Led}{m:Str→Option Value}{s:Shared}{p:Program}{loose:List Str}{mg mb:Str→Option Value}
theorem Inv.look {i:Nat}{o o':HO}{P:Params}(I:Inv U K P ti fr c σ ad own tb fz m s) (hi:σ.ho[i]? = some o) (h:∀ x e,ad[i]? = some x→OW U K P ad fz x o e→OW U K P ad fz x o' e) :
  Inv U K P ti fr c { σ with ho:=σ.ho.set i o' } ad own tb fz m s:=by
 obtain ⟨x,e,pre,post,h1,h2,h3,h4⟩:=I.ow.split2 hi
 refine ⟨I.F,I.N,I.nd,?_,I.tb,I.lo,I.og⟩
 rw [h3]
 exact h4 ad fz .refl (λ _ h=>h) _ _ (h x e h1 h2)
theorem shape648:(topD 66).2.2.1=(by refine' (?f:∀ b,(topD 66).2.2.1=b→List Stmt) _ ?h;exact λ b _=>b;case h=>conv=>lhs;whnf):=rfl
theorem kinds648:(topD 66).2.2.2.kind=.function∧zqt (topD 66).2.2.2 "cells" = true∧zqt (topD 66).2.2.2 "at" = true∧zqt (topD 66).2.2.2 "source" = true∧zqt (topD 66).2.2.2 "limit" = true∧zxk (topD 66).2.2.2 "len" = true:=⟨by kernel_rfl,by kernel_rfl,by kernel_rfl,by kernel_rfl,by kernel_rfl,by kernel_rfl⟩
theorem kindK {sc:Scope}{x:Str}{f:NameKind→Bool}{k:NameKind}(hf:∀ j,f j=true→j=k) (h:(Option.rec false f (zq2 x sc.names):Bool)=true):zq2 x sc.names=some k:=(zxr x sc.names).trans (isK_eq hf h)
theorem isLoc_k {sc:Scope}{x:Str}(h:zqt sc x=true):zq2 x sc.names=some .local:=(zxr x sc.names).trans (zx5 h)
theorem isGlo_k {sc:Scope}{x:Str}(h:zxk sc x=true):zq2 x sc.names=some .globalImplicit:=(zxr x sc.names).trans (zxj h)
theorem armName_loc {sc:Scope}{x:Str}{a:AV}(hk:zqt sc x=true) (hd:sB x "__debug__" = false) (hl:zqn x σ.loc=some a):zju O sc x σ=ok a σ:=by
 unfold zju;rw [hd,isLoc_k hk]
 show lft (zqn x σ.loc) _=_
 rw [hl];rfl
theorem zku {sc:Scope}{x:Str}{a:AV}(hk:zxk sc x=true) (hd:sB x "__debug__" = false) (hl:O.glob x=some a):zju O sc x σ=ok a σ:=by
 unfold zju;rw [hd,isGlo_k hk]
 show lft (O.glob x) _=_
 rw [hl];rfl
theorem stepE_loc {R:Rec}{sc:Scope}{x:Str}{q:Pos}{a:AV}(hk:zqt sc x=true) (hd:sB x "__debug__" = false) (hl:zqn x σ.loc=some a):zke O R sc (.Name x q) σ=ok a σ:=armName_loc hk hd hl
theorem rtk_int {i:Nat}{a:Int}{x:Ad}{vs:List Value}{P:Params}{Q:List Value→Prop}(h:VRs K P ad fz [.rtk i,.int a] vs) (hx:ad[i]? = some x) (k:∀ t,Q [.ref x.t,.int a t]):Q vs:=
 h.qCons (Q:=Q) rfl λ {v vs} g1 g2=>g2.qCons (Q:=λ vs=>Q (v::vs)) rfl λ {u us} g2 g3=>g3.qNil (Q:=λ us=>Q (v::u::us)) (g1.qRtk (Q:=λ v=>Q [v,u]) rfl λ {y} hy=>g2.qInt (Q:=λ u=>Q [.ref y.t,u]) rfl λ t=>Option.some.inj (hx.symm.trans hy)▸k t)
noncomputable def lenR (i:Nat) (n:Int) (as:List AV) (σ:St):Ou AV:=bd (one? as) λ a=>bd a.rtk? λ j=>gd (Nat.beq j i) (ok (.int n) σ)
theorem sd_lenc (hRX:RXm RX) {k i:Nat}{x:Ad}{cs:List Value}{n':Nat}{p1 p2 p3:Pos}(FA:zqr K w.params O) (hlen:O.glob "len" = some (.blt "len")) (Y:Ok p loose mg mb K c k) (I:Inv U K w.params ti fr c σ ad own tb fz m s)
  (hk:zqt c.sc "cells" = true) (hg:zxk c.sc "len" = true) (hl:zqn "cells" σ.loc=some (.rtk i)) (hx:ad[i]? = some x) (hc:(x.t,listOf cs.toArray n')∈fz) (hb:cs.length < 2 ^ 20) :
  Sd (model prog w) U K w.params ti fr RX c ad fz (VR K w.params) (eval (.Call (.Name "len" p1) [.Name "cells" p2] [] p3) c.env) (ok (.int (cs.length:Int)) σ) s:=by
 rw [arm_eval_Call_Name']
 have hE:SE prog w K ti fr U RX (Rn O) c:=se_n FA Y
 have h1:Sd (model prog w) U K w.params ti fr RX c ad fz (VR K w.params) (eval (.Name "len" p1) c.env) (ok (.blt "len") σ) s:=by
  have h:=sd_name (prog:=prog) (w:=w) (RX:=RX) (x := "len") (pos:=p1) FA Y I
  rwa [zku hg (by decide) hlen] at h
 refine Sd.seq hRX h1 λ vf s₁ ad₁ own₁ tb₁ fz₁ m₁ hp₁ hf₁ I₁ hv=>hv.qBlt rfl ?_
 have hcall:=zzw (prog:=prog) (w:=w) (K:=K) (fr:=fr) (ti:=ti) (U:=U) (RX:=RX) (c:=c) (f:=.builtin "len") (first:=[]) (pos:=p3) (es:=[.Name "cells" p2]) (r:=lenR i cs.length) hRX hE rfl I₁
  (λ as vs σ₂ ad₂ own₂ tb₂ fz₂ m₂ s₂ hp₂ hf₂ I₂ hvs=>⟨⟨.machine,.inr (.inl rfl),.of_pure rfl⟩,by
   refine Sd.bd λ v ev=>Sd.bd λ j hj=>Sd.gd λ q=>hvs.qOne (Q:=λ vs=>Sd (model prog w) U K w.params ti fr RX c ad₂ fz₂ (VR K w.params) (call (.builtin "len") vs []) _ s₂) ev (AV.rtk_e hj▸rfl) λ h=>h.qRtk hj λ {y} hx₂=>?_
   rw [Nat.eq_of_beq_eq_true q,hp₂.get (hp₁.get hx)] at hx₂
   rw [← Option.some.inj hx₂]
   refine PyProof.Rows.len_list (items:=cs.toArray) ⟨_,I₂.mem (hf₂ (hf₁ hc)),rfl,_,rfl⟩ (by simp;omega) (.mk (I₂.tok _) ?_)
   have:(cs.toArray.size:Int)=(cs.length:Int):=by simp
   rw [this]
   exact .int _ _⟩)
 have e:bnd (evEs (Rn O) c.sc [.Name "cells" p2] σ) (lenR i cs.length)=ok (.int (cs.length:Int)) σ:=by
  have h1:(Rn O).E c.sc (.Name "cells" p2) σ=ok (.rtk i) σ:=stepE_loc (O:=O) (R:=bot) (q:=p2) hk (by decide) hl
  show bnd (bnd ((Rn O).E c.sc (.Name "cells" p2) σ) λ v σ=>ok [v] σ) (lenR i cs.length)=_
  rw [h1]
  show gd (Nat.beq i i) _=_
  rw [Nat.beq_refl i];rfl
 rw [e] at hcall
 exact hcall
theorem set_cell {i a:Nat}{x:Ad}{ti' t2:Tok}(I:Inv U K w.params ti fr c σ ad own tb fz m s) (hxx:ad[i]? = some x) (hi:σ.ho[i]? = some (.lst [.rtk i,.int (a:Int)])) :
  Sd (model prog w) U K w.params ti fr RX c ad fz Any (setItem (.ref x.a) (.int 1 ti') (.int ((a + 1:Nat):Int) t2)) (ok () { σ with ho:=σ.ho.set i (.lst [.rtk i,.int ((a + 1:Nat):Int)]) }) s:=by
 refine (I.at hi hxx).casesOn λ e pre post h2 h3 h4=>ILst.casesOn (motive:=λ e _=>own=pre++(e++post)→_) (show ILst K w.params ad fz x [.rtk i,.int (a:Int)] e from h2.inv) (λ {vs n} hvs=>rtk_int (Q:=λ vs=>own=pre++([(x.a,listOf vs.toArray n)]++post)→_) hvs hxx λ t1 h3=>?_) h3
 have hm:=I.N _ (I.ownMem h3 (.head _))
 have e1:∀ t,pre++([(x.a,listOf [Value.ref x.t,t].toArray n)]++post)++(tb++(fr++fz))=pre++(x.a,listOf #[.ref x.t,t] n)::(post++(tb++(fr++fz))):=λ t=>by simp
 have hnd:=I.nd
 have hN:=I.N
 rw [h3,e1] at hnd hN
 obtain ⟨q1,q2⟩:(∀ p∈pre,p.1≠x.a)∧∀ p∈(post++(tb++(fr++fz))),p.1≠x.a:=by
  rw [List.map_append,List.map_cons] at hnd
  obtain ⟨_,n2,n3⟩:=List.nodup_append.mp hnd
  exact ⟨λ p hp q=>n3 _ (List.mem_map_of_mem hp) _ (List.mem_cons_self ..) q,λ p hp q=>(List.nodup_cons.mp n2).1 (List.mem_map.mpr ⟨p,hp,q⟩)⟩
 refine PySem.W.ki_setAt hm.1 (by decide) (by decide) (by show (1:Int) < ((2:Nat):Int);decide) ?_
 have N':=PySem.W.ki_turn (its':=#[.ref x.t,.int ((a + 1:Nat):Int) t2]) (n':=n) (λ z=>z.setIfInBounds (1:Int).toNat (.int ((a + 1:Nat):Int) t2)) hN q1 q2 rfl rfl
 exact .mk (m:=m) ⟨I.F.change (Heap.SameBut.update ..) hm.2.1 hm.2.2,by rw [e1];exact N',by rw [e1];simpa using hnd,h4 _ _ (.lst (n:=n) (.cons (.rtk hxx) (.cons (.int ((a + 1:Nat):Int) t2) .nil))),I.tb,I.lo,I.og⟩ trivial
theorem sd_setpos (hRX:RXm RX) {k i:Nat}{a:Nat}{x:Ad}{r1 r2 r3 r4 r5 r6 r7:Pos}(FA:zqr K w.params O) (Y:Ok p loose mg mb K c k) (I:Inv U K w.params ti fr c σ ad own tb fz m s)
  (hk:zqt c.sc "at" = true) (hs:zqt c.sc "source" = true) (hl:zqn "at" σ.loc=some (.int (a:Int))) (hl2:zqn "source" σ.loc=some (.hnd i)) (hx:ad[i]? = some x)
  (hi:σ.ho[i]? = some (.lst [.rtk i,.int (a:Int)])) :
  Sd (model prog w) U K w.params ti fr RX c ad fz (FlR K w.params) (exec (.Assign [.Subscript (.Name "source" r1) (.Constant (.int 1) 0 r2) r3] (.BinOp (.Name "at" r4) .Add (.Constant (.int 1) 0 r5) r6) r7) c.env)
   (ok .next { σ with ho:=σ.ho.set i (.lst [.rtk i,.int ((a + 1:Nat):Int)]) }) s:=by
 rw [exec_Assign_arm]
 generalize ht:(PySem.Expr.Subscript (.Name "source" r1) (.Constant (.int 1) 0 r2) r3)=tg
 have hsole:swapsWithSole [tg] (.BinOp (.Name "at" r4) .Add (.Constant (.int 1) 0 r5) r6) r7.line c.env=pure false:=rfl
 have hsw:swappedStores [tg] (.BinOp (.Name "at" r4) .Add (.Constant (.int 1) 0 r5) r6) c.env=pure none:=zxg (by subst ht;rfl)
 rw [hsole,hsw]
 refine Sd.stand (Sd.wp (λ Q E h=>wpAny_bind (wpAny_pure h)) ?_)
 rw [if_neg (by decide)]
 have hv:Sd (model prog w) U K w.params ti fr RX c ad fz (VR K w.params) (eval (.BinOp (.Name "at" r4) .Add (.Constant (.int 1) 0 r5) r6) c.env) (ok (.int ((a + 1:Nat):Int)) σ) s:=
  sd_op2 hRX (zzv FA Y I hk (by decide) hl) (λ s' ad' own tb fz' m _ _ I=>sd_int I) λ va vb s' ad' own tb fz' m _ _ I ha hb=>by
   replace ha:=ha.inv;cases ha;replace hb:=hb.inv;cases hb
   exact PyProof.Rows.add_int (.mk (I.tok _) (by
    have:(a:Int) + 1=((a + 1:Nat):Int):=by omega
    rw [this];exact .int _ _))
 refine Sd.seq hRX hv λ va s₁ ad₁ own₁ tb₁ fz₁ m₁ hp₁ hf₁ I₁ ha=>?_
 refine Sd.wp (λ Q E h=>wpAny_bind (wpAny_pure h)) ?_
 subst ht
 show Sd _ _ _ _ _ _ _ _ _ _ _ (do assign (.Subscript (.Name "source" r1) (.Constant (.int 1) 0 r2) r3) c.env va;pure Flow.next) _ _
 rw [arm_assign_Subscript]
 refine Sd.seq hRX (rel:=Any) (a:=()) (σ:={ σ with ho:=σ.ho.set i (.lst [.rtk i,.int ((a + 1:Nat):Int)]) }) ?_ λ _ s' ad' own tb fz' m _ _ I _=>Sd.ok I .next
 refine Sd.seq hRX (Sd.hold (zzv FA Y I₁ hs (by decide) hl2)) λ vo s₂ ad₂ own₂ tb₂ fz₂ m₂ hp₂ hf₂ I₂ ho=>?_
 refine Sd.seq hRX (Sd.hold (sd_int I₂)) λ vi s₃ ad₃ own₃ tb₃ fz₃ m₃ hp₃ hf₃ I₃ hvi=>Sd.stand ?_
 refine hvi.qInt (Q:=λ vi=>Sd (model prog w) U K w.params ti fr RX c ad₃ fz₃ Any (do holding [va,vo,vi] (setItem vo vi va);release [va,vo,vi] []) _ s₃) rfl λ ti'=>?_
 have ha₃:=(ha.mono hp₂ hf₂).mono hp₃ hf₃
 have hxx:=hp₃.get (hp₂.get (hp₁.get hx))
 refine (ho.mono hp₃ hf₃).qHnd rfl λ {x₂} hx₃=>?_
 rw [← Option.some.inj (hxx.symm.trans hx₃)]
 refine ha₃.qInt rfl λ t2=>?_
 have hset:Sd (model prog w) U K w.params ti fr RX c ad₃ fz₃ Any (setItem (.ref x.a) (.int 1 ti') (.int ((a + 1:Nat):Int) t2)) (ok () { σ with ho:=σ.ho.set i (.lst [.rtk i,.int ((a + 1:Nat):Int)]) }) s₃:=set_cell I₃ hxx hi
 refine Sd.wp (λ Q E h=>?_) hset
 refine wpAny_bind (wpAny_holding (wpAny_mono h (λ _ _ h=>?_) λ _ _ h=>h))
 exact λ Γ p hΓ=>by rw [Sem.wp_release];exact h
theorem IntsAre.nth {cs:List Value}{ns:List Int}(h:IntsAre cs ns):∀ {j:Nat},j < ns.length→∃ t,cs[j]? = some (.int (ns.getD j 0) t):=by
 induction h with
 | nil=>exact λ h=>(nomatch h)
 | cons n t h ih=>
  intro j hj
  cases j with
  | zero=>exact ⟨t,rfl⟩
  | succ j=>
   obtain ⟨u,hu⟩:=ih (j:=j) (Nat.lt_of_succ_lt_succ hj)
   exact ⟨u,by simpa using hu⟩
theorem sd_drawn (hRX:RXm RX) {k i a:Nat}{l:Int}{x:Ad}{cs:List Value}{ns:List Int}{n':Nat}{t1 t2 t3 t4 t5 t6 t7 t8 u1 u2 u3 u4 u5 u6 u7 u8 u9:Pos}(FA:zqr K w.params O) (hlen:O.glob "len" = some (.blt "len")) (Y:Ok p loose mg mb K c k) (I:Inv U K w.params ti fr c σ ad own tb fz m s)
  (hk1:zqt c.sc "cells" = true) (hk2:zqt c.sc "at" = true) (hk3:zqt c.sc "limit" = true) (hg:zxk c.sc "len" = true)
  (hl1:zqn "cells" σ.loc=some (.rtk i)) (hl2:zqn "at" σ.loc=some (.int (a:Int))) (hl3:zqn "limit" σ.loc=some (.int l)) (hx:ad[i]? = some x) (hc:(x.t,listOf cs.toArray n')∈fz) (hi:IntsAre cs ns) (hb:ns.length < 2 ^ 20) (hne:ns≠[]) (hpos:0 < l) :
  Sd (model prog w) U K w.params ti fr RX c ad fz (VR K w.params) (eval (.BinOp (.BinOp (.Subscript (.Name "cells" t1) (.BinOp (.Name "at" t2) .Mod (.Call (.Name "len" t3) [.Name "cells" t4] [] t5) t6) t7) .Add
    (.BinOp (.Constant (.int 11) 0 u1) .Mult (.BinOp (.Name "at" u2) .FloorDiv (.Call (.Name "len" u3) [.Name "cells" u4] [] u5) u6) u7) t8) .Mod (.Name "limit" u8) u9) c.env) (ok (.int (drawV ns a l)) σ) s:=by
 have hcl:cs.length=ns.length:=hi.length
 have hpn:0 < ns.length:=List.length_pos_iff.mpr hne
 have hn0:(cs.length:Int)≠0:=by omega
 have hlt:a % ns.length < ns.length:=Nat.mod_lt _ hpn
 have L:∀ {s':Shared}{ad':List Ad}{own tb fz':Led}{m} {p1 p2 p3:Pos},Pre ad ad'→fz⊆fz'→Inv U K w.params ti fr c σ ad' own tb fz' m s'→Sd (model prog w) U K w.params ti fr RX c ad' fz' (VR K w.params) (eval (.Call (.Name "len" p1) [.Name "cells" p2] [] p3) c.env) (ok (.int (cs.length:Int)) σ) s':=
  λ hp hf I=>sd_lenc hRX FA hlen Y I hk1 hg hl1 (hp.get hx) (hf hc) (by omega)
 refine sd_op2 hRX (a:=.int (ns.getD (a % ns.length) 0 + 11 * ((a / ns.length:Nat):Int))) (b:=.int l) (σ₁:=σ) ?_ (λ s' ad' own tb fz' m _ _ I=>zzv FA Y I hk3 (by decide) hl3) λ va vb s' ad' own tb fz' m _ _ I ha hb=>?_
 ·refine sd_op2 hRX (a:=.int (ns.getD (a % ns.length) 0)) (b:=.int (11 * ((a / ns.length:Nat):Int))) (σ₁:=σ) ?_ (λ s₁ ad₁ own₁ tb₁ fz₁ m₁ hp₁ hf₁ I₁=>?_) λ va vb s' ad' own tb fz' m _ _ I ha hb=>?_
  ·refine sd_sub2 hRX (a:=.rtk i) (b:=.int ((a % ns.length:Nat):Int)) (σ₁:=σ) (zzv FA Y I hk1 (by decide) hl1) (λ s₁ ad₁ own₁ tb₁ fz₁ m₁ hp₁ hf₁ I₁=>?_) λ va vb s' ad' own tb fz' m hp hf I ha hb=>?_
   ·refine sd_op2 hRX (a:=.int (a:Int)) (b:=.int (cs.length:Int)) (σ₁:=σ) (zzv FA Y I₁ hk2 (by decide) hl2) (λ s₂ ad₂ own₂ tb₂ fz₂ m₂ hp₂ hf₂ I₂=>L (hp₁.trans hp₂) (λ _ h=>hf₂ (hf₁ h)) I₂) λ va vb s' ad' own tb fz' m _ _ I ha hb=>?_
    replace ha:=ha.inv;cases ha;replace hb:=hb.inv;cases hb
    refine PyProof.Rows.mod_int hn0 (.mk (I.tok _) ?_)
    have:(a:Int).fmod (cs.length:Int)=((a % ns.length:Nat):Int):=by
     rw [hcl,Int.fmod_eq_emod_of_nonneg _ (by omega)];simp
    rw [this];exact .int _ _
   ·replace hb:=hb.inv;cases hb with | int t=>
    replace ha:=ha.inv;cases ha with | rtk hx'=>
    rw [hp.get hx] at hx'
    cases hx'
    obtain ⟨u,hu⟩:=IntsAre.nth hi hlt
    have hl:s'.heap.IsList x.t cs.toArray:=⟨_,I.mem (hf hc),rfl,_,rfl⟩
    exact PyProof.Rows.item_list hl (by omega) (by omega) (by rw [Int.toNat_natCast];simpa using hu) (.mk I (.int _ _))
  ·refine sd_op2 hRX (a:=.int 11) (b:=.int ((a / ns.length:Nat):Int)) (σ₁:=σ) (sd_int I₁) (λ s₂ ad₂ own₂ tb₂ fz₂ m₂ hp₂ hf₂ I₂=>?_) λ va vb s' ad' own tb fz' m _ _ I ha hb=>?_
   ·refine sd_op2 hRX (a:=.int (a:Int)) (b:=.int (cs.length:Int)) (σ₁:=σ) (zzv FA Y I₂ hk2 (by decide) hl2) (λ s₃ ad₃ own₃ tb₃ fz₃ m₃ hp₃ hf₃ I₃=>L ((hp₁.trans hp₂).trans hp₃) (λ _ h=>hf₃ (hf₂ (hf₁ h))) I₃) λ va vb s' ad' own tb fz' m _ _ I ha hb=>?_
    replace ha:=ha.inv;cases ha;replace hb:=hb.inv;cases hb
    refine PyProof.Rows.floordiv_int hn0 (.mk (I.tok _) ?_) (.inl (PyProof.noPylong_small (by omega)))
    have:(a:Int).fdiv (cs.length:Int)=((a / ns.length:Nat):Int):=by
     rw [hcl,Int.fdiv_eq_ediv_of_nonneg _ (by omega)];simp
    rw [this];exact .int _ _
   ·replace ha:=ha.inv;cases ha;replace hb:=hb.inv;cases hb
    exact PyProof.Rows.mul_int (.mk (I.tok _) (.int _ _)) (PySem.IntMulOk.of_left (by decide))
  ·replace ha:=ha.inv;cases ha;replace hb:=hb.inv;cases hb
   exact PyProof.Rows.add_int (.mk (I.tok _) (.int _ _))
 ·replace ha:=ha.inv;cases ha;replace hb:=hb.inv;cases hb
  refine PyProof.Rows.mod_int (by omega) (.mk (I.tok _) ?_)
  rw [Int.fmod_eq_emod_of_nonneg _ (by omega)]
  exact .int _ _
theorem prim_draw {n i:Nat}{l v:Int}{r:List Tape}{vs:List Value}(hRX:RXm RX) (hlv:zkv prog w RX) (FA:zqr K w.params O) (hlen:O.glob "len" = some (.blt "len")) (hf:zqw K w.params 648 ⟨["source", "limit"],[],(topD 66).2.2.1,(topD 66).2.2.2⟩)
  (Y:Ok p loose mg mb K c (n + 1)) (I:Inv U K w.params ti fr c σ ad own tb fz m s) (hi:σ.ho[i]? = some (.src (.draw l v::r))) (hv:VRs K w.params ad fz [.hnd i,.int l] vs) :
  SdV (model prog w) U K w.params ti fr RX c ad fz m (.call (.ref 648) ⟨vs,[]⟩) (ok (.int v) { σ with ho:=σ.ho.set i (.src r) }) s:=by
 obtain ⟨x,e,pre,post,h1,h2,h3,h4⟩:=I.ow.split2 hi
 replace h2:=h2.inv;cases h2 with | src b1 b2 b3 b4 b5=>
 rename_i a ns cs nn n' tk1
 obtain ⟨b6,b7,b8⟩:=b5
 have hlt:i < σ.ho.length:=(List.getElem?_eq_some_iff.mp hi).1
 have hset:∀ o:HO,(σ.ho.set i o)[i]? = some o:=λ o=>by rw [List.getElem?_set_self hlt]
 let o1:HO:=.lst [.rtk i,.int (a:Int)]
 let o2:HO:=.lst [.rtk i,.int ((a + 1:Nat):Int)]
 let loc1:List (Str × AV):=zza "at" (.int (a:Int)) (zza "cells" (.rtk i) [("source",.hnd i),("limit",.int l)])
 have I':Inv U K w.params ti fr c { σ with ho:=σ.ho.set i o1 } ad own tb fz m s:=by
  refine ⟨I.F,I.N,I.nd,?_,I.tb,I.lo,I.og⟩
  rw [h3]
  exact h4 ad fz .refl (λ _ h=>h) _ _ (.lst (.cons (.rtk h1) (.cons (.int _ tk1) .nil)))
 have main:=sd_fnG (x:=.ok (.ret (.int v)) ⟨loc1,(σ.ho.set i o1).set i o2⟩) hRX hlv Y hf I' hv rfl rfl (λ c' h₁ tk cells m' Y' hsc I₁=>by
  have hb:=shape648
  obtain ⟨k1,k2,k3,k4,k5,k6⟩:=kinds648
  have hsc:c'.sc=(topD 66).2.2.2:=hsc
  show Sd _ _ _ _ _ _ _ _ _ _ _ (execs (topD 66).2.2.1 c'.env) _ _
  rw [hb]
  rw [← hsc] at k1 k2 k3 k4 k5 k6
  have it:∀ {σ:St}{ad own tb fz m s} {e1:PySem.Expr}{p1 p2 p3:Pos}{j:Nat}{b:AV},Inv U K w.params ti fr c' σ ad own tb fz m s→zqn "source" σ.loc=some (.hnd i)→σ.ho[i]? = some o1→itemA O σ (.hnd i) (.int (Int.ofNat j))=some b →
    Sd (model prog w) U K w.params ti fr RX c' ad fz (VR K w.params) (eval (.Subscript (.Name "source" p1) (.Constant (.int (Int.ofNat j)) 0 p2) p3) c'.env) (ok b σ) s:=λ {σ ad own tb fz m s e1 p1 p2 p3 j b} I hl ho hit=>
   sd_sub2 hRX (zzv FA Y' I k4 (by decide) hl) (λ s' ad' own tb fz' m _ _ I=>sd_int I) λ va vb s' ad' own tb fz' m _ _ I ha hb=>by
    have:=sd_item (RX:=RX) (prog:=prog) (value:=.Name "source" p1) (slice:=.Constant (.int (Int.ofNat j)) 0 p2) rfl FA Y'.X I ha hb
    rw [hit] at this
    exact this
  have hit:∀ {σ:St}{j:Nat}{b:AV},σ.ho[i]? = some o1→nthA [.rtk i,.int (a:Int)] j=some b→Nat.ble j 1000=true→itemA O σ (.hnd i) (.int (Int.ofNat j))=some b:=λ {σ j b} ho hn hj=>by
   show bd (bd σ.ho[i]? HO.lst?) (λ l=>itemN l (Int.ofNat j))=_
   rw [ho]
   show gd (Nat.ble j 1000) (nthA [.rtk i,.int (a:Int)] j)=_
   rw [hj];exact hn
  refine zkh hRX (zjy hRX k1 k2 rfl (it (e1:=.Name "x" default) (j:=0) (b:=.rtk i) I₁ rfl (hset _) (hit (hset _) rfl rfl))) λ s₂ ad₂ own₂ tb₂ fz₂ m₂ hp₂ hf₂ I₂=>?_
  refine zkh hRX (zjy hRX k1 k3 rfl (it (e1:=.Name "x" default) (j:=1) (b:=.int (a:Int)) I₂ (by rfl) (hset _) (hit (hset _) rfl rfl))) λ s₃ ad₃ own₃ tb₃ fz₃ m₃ hp₃ hf₃ I₃=>?_
  refine zkh hRX (sd_setpos hRX FA Y' I₃ k3 k4 (by rfl) (by rfl) (hp₃.get (hp₂.get h1)) (hset _)) λ s₄ ad₄ own₄ tb₄ fz₄ m₄ hp₄ hf₄ I₄=>?_
  rw [b7]
  refine sd_last hRX (sd_rete hRX (sd_drawn hRX FA hlen Y' I₄ k2 k3 k5 k6 (by rfl) (by rfl) (by rfl) (hp₄.get (hp₃.get (hp₂.get h1))) (hf₄ (hf₃ (hf₂ (List.mem_append_right _ b1)))) b2 b4 b3 b6)))
 refine codeAny_mono (main:SdV (model prog w) U K w.params ti fr RX c ad fz m (.call (.ref 648) ⟨vs,[]⟩) (ok (.int v) ⟨σ.loc,(σ.ho.set i o1).set i o2⟩) s) λ rr s' z=>?_
 cases rr with
 | error e=>exact z.elim
 | ok f=>
  cases f with
  | ret u=>
   obtain ⟨ad',own',tb',fz',hp,hfz,I₂,hu⟩:=z
   refine ⟨ad',own',tb',fz',hp,hfz,?_,hu⟩
   have hh:((σ.ho.set i o1).set i o2)[i]? = some o2:=by rw [List.getElem?_set_self (by simpa using hlt)]
   have I₃:=I₂.look (o':=.src r) hh (λ x' e' hx' ho'=>by
    rw [hp.get h1] at hx'
    cases hx'
    exact ILst.casesOn (motive:=λ e' _=>OW U K w.params ad' fz' x (.src r) e') (show ILst K w.params ad' fz' x [.rtk i,.int ((a + 1:Nat):Int)] e' from ho'.inv) λ {vs n} hvs=>rtk_int (Q:=λ vs=>OW U K w.params ad' fz' x (.src r) [(x.a,listOf vs.toArray n)]) hvs (hp.get h1) λ t9=>.src (hfz b1) b2 b3 b4 b8)
   have e:(((σ.ho.set i o1).set i o2).set i (.src r))=σ.ho.set i (.src r):=by simp
   dsimp only at I₃
   rw [e] at I₃
   exact I₃
  | _=>exact z.elim
end
end
section
section
variable {prog:Program}{w:World}{K:Frag}{ti:List TabI}{fr:Led}{U:SubP}{c:Cx}{RX:Cx→Led→Int→Value→Shared→Prop}{O:Out}
 {σ σ':St}{ad:List Ad}{own tb fz:Led}{m:Str→Option Value}{s:Shared}{p:Program}{loose:List Str}{mg mb:Str→Option Value}
noncomputable def zk0 (f d:Nat):List AV:=cd (Nat.beq f 715) [] [.int (Int.ofNat d)]
inductive GenR (w:World) (K:Frag) (ti:List TabI) (c:Cx) (fr:Led) (x:Ad) (fz:Led) (m:Str→Option Value) (b:Nat) (v:AV) (u:Value) (s':Shared):Prop
 | mk (own' tb' fz':Led) (h:fz⊆fz') (I:Inv noU K w.params ti fr c ⟨[],[.src []]⟩ [{ x with n:=b }] own' tb' fz' m s') (hv:VR K w.params [] fz' v u):GenR w K ti c fr x fz m b v u s'
noncomputable def GenB (prog:Program) (w:World) (K:Frag) (ti:List TabI) (p:Program) (loose:List Str) (mg mb:Str→Option Value) (D:Nat) (f d:Nat) (ns:List Int) (a:Nat) (v:AV) (b:Nat):Prop:=
 ∀ (c:Cx) (fr:Led) (x:Ad) (own tb fz:Led) (m:Str→Option Value) (s:Shared) (vs:List Value) (cs:List Value) (n':Nat),Ok p loose mg mb K c D→Inv noU K w.params ti fr c ⟨[],[.src []]⟩ [x] own tb fz m s→x.n=a →
  (x.t,listOf cs.toArray n')∈fz→IntsAre cs ns→VRs K w.params [x] fz (.hnd 0::zk0 f d) vs →
  codeAny (model prog w) c.A (.call (.ref f) ⟨vs,[]⟩) (λ r s'=>match r with
   | .ok (.ret u)=>GenR w K ti c fr x fz m b v u s'
   | _=>False) s
theorem ints_one {cs:List Value}{ns ns':List Int}(h:IntsAre cs ns):IntsAre cs ns'→ns=ns':=by
 induction h generalizing ns' with
 | nil=>intro h;cases h;rfl
 | cons n t h ih=>intro h;cases h with | cons _ _ h'=>rw [ih h']
theorem cells_one {a:Addr}{cs cs':List Value}{n n':Nat}{ns ns':List Int}{h:Heap}(h1:h.get? a=some (listOf cs.toArray n)) (h2:h.get? a=some (listOf cs'.toArray n')) (i1:IntsAre cs ns) (i2:IntsAre cs' ns'):ns=ns':=by
 rw [h1] at h2
 have e:=Option.some.inj h2
 have e:cs.toArray=cs'.toArray:=by
  unfold PySem.W.listOf at e
  injection e with _ _ e _
  injection e
 have e:cs=cs':=by simpa using e
 subst e
 exact ints_one i1 i2
theorem gargs_vr {P:Params}{ad':List Ad}{f d:Nat}{vs:List Value}(h:VRs K P ad fz (zk0 f d) vs):VRs K P ad' fz (zk0 f d) vs:=by
 unfold zk0 at h ⊢
 cases q:Nat.beq f 715 with
 | true=>rw [q] at h;exact h.qNil .nil
 | false=>rw [q] at h;exact h.qCons rfl λ a b=>b.qNil (a.qInt rfl λ t=>.cons (.int _ _) .nil)
theorem src_back {P:Params}{x:Ad}{b:Nat}{ns:List Int}{cs:List Value}{n':Nat}{r:List Tape}{own' tb' fz':Led}{σ':St}{m':Str→Option Value}{s':Shared}{fr':Led}(I:Inv noU K P ti fr' c σ' [⟨x.a,x.d,x.t,x.z,b⟩] own' tb' fz' m' s') (b1:(x.t,listOf cs.toArray n')∈fz') (b2:IntsAre cs ns) (b6:zqu U.gen ns (x.z 0) b r x.n) {l:Led}
  (h:OW noU K P [⟨x.a,x.d,x.t,x.z,b⟩] fz' (⟨x.a,x.d,x.t,x.z,b⟩:Ad) (.src []) l):OW U K P ad fz' x (.src r) l:=
 ISrc.casesOn (motive:=λ l _=>OW U K P ad fz' x (.src r) l) (show ISrc noU fz' (⟨x.a,x.d,x.t,x.z,b⟩:Ad) [] l from h.inv) λ {a' ns' cs' nn' n'' tk'} d1 d2 d3 d4 d5=>by
  have d5:a'=b:=d5
  have e:=cells_one (I.mem d1) (I.mem b1) d2 b2
  rw [d5]
  exact .src (x:=x) d1 d2 d3 d4 (e▸b6)
theorem sd_gen {D i f d:Nat}{tp r:List Tape}{v:AV}{vs:List Value}(hG:∀ f d ns a v b,U.gen f d ns a v b→GenB prog w K ti p loose mg mb D f d ns a v b)
  (Y:Ok p loose mg mb K c D) (I:Inv U K w.params ti fr c σ ad own tb fz m s) (hi:σ.ho[i]? = some (.src tp)) (ht:∀ x,ad[i]? = some x→∀ ns a,zqu U.gen ns (x.z 0) a tp x.n→∃ b,U.gen f d ns a v b∧zqu U.gen ns (x.z 0) b r x.n)
  (hv:VRs K w.params ad fz (.hnd i::zk0 f d) vs) :
  SdV (model prog w) U K w.params ti fr RX c ad fz m (.call (.ref f) ⟨vs,[]⟩) (ok v { σ with ho:=σ.ho.set i (.src r) }) s:=by
 refine (I.ow.split2 hi).casesOn λ x e₁ pre post' h1 h2 h3 h4=>ISrc.casesOn (motive:=λ e₁ _=>own=pre++(e₁++post')→_) (show ISrc U fz x tp e₁ from h2.inv) (λ {a ns cs nn n' tk1} b1 b2 b3 b4 b5 h3=>?_) h3
 obtain ⟨b,hU,b6⟩:=ht x h1 ns a b5
 have I₁:Inv noU K w.params ti (pre++(post'++fr)) c ⟨[],[.src []]⟩ [{ x with n:=a }] _ tb fz m s:=
  ⟨I.F,λ q hq=>I.N q (h3▸zq0.mem_iff.mpr hq),(zq0.map _).nodup_iff.mp (h3▸I.nd),OWs.one (.src (x:={ x with n:=a }) (t1:=tk1) (n:=nn) b1 b2 b3 b4 rfl),I.tb,(λ y a q=>nomatch q),I.og⟩
 have hvs:VRs K w.params [{ x with n:=a }] fz (.hnd 0::zk0 f d) vs:=hv.qCons rfl λ g1 g2=>g1.qHnd rfl λ {y} g3=>by
  cases Option.some.inj (h1.symm.trans g3)
  exact .cons (.hnd (x:={ x with n:=a }) rfl) (gargs_vr g2)
 have hb:=hG _ _ _ _ _ _ hU c (pre++(post'++fr)) _ _ tb fz m s vs cs n' Y I₁ rfl b1 b2 hvs
 refine codeAny_mono hb λ rr s' h=>?_
 cases rr with
 | error e=>exact h.elim
 | ok fl=>
  cases fl with
  | ret u=>
   refine GenR.casesOn h λ own' tb' fz' g1 I₂ g2=>?_
   refine I₂.ow.qOne (Q:=λ own'=>Inv noU K w.params ti _ c _ _ own' tb' fz' m s'→_) (λ {own'} ow I₂=>?_) I₂
   exact ⟨ad,pre++(own'++post'),tb',fz',.refl,g1,⟨I₂.F,λ q hq=>I₂.N q (zq0.mem_iff.mp hq),(zq0.map _).nodup_iff.mpr I₂.nd,h4 ad fz' .refl g1 _ _ (src_back (x:=x) (b:=b) I₂ (g1 b1) b2 b6 ow),I₂.tb,I.lo.mono .refl g1,I₂.og⟩,g2.mono ⟨ad,rfl⟩ λ _ h=>h⟩
  | _=>exact h.elim
theorem Tape.call_e {t:Tape}{q:Nat × Nat × AV}(h:t.call? = some q):t=.call q.1 q.2.1 q.2.2:=by
 cases t with
 | call f d v=>cases h;rfl
 | draw=>cases h
 | callo=>cases h
theorem Tape.callo_e {t:Tape}{q:Nat × Nat × AV}(h:t.callo? = some q):t=.callo q.1 q.2.1 q.2.2:=by
 cases t with
 | callo f d v=>cases h;rfl
 | draw=>cases h
 | call=>cases h
noncomputable def dArg (f:Nat) (d:AV):List AV:=cd (Nat.beq f 715) [] [d]
theorem dArg_nat {P:Params}{f n:Nat}{d:AV}{vs:List Value}(h:d.nat? = some n) (hv:VRs K P ad fz (dArg f d) vs):VRs K P ad fz (zk0 f n) vs:=by rw [AV.nat_e h] at hv;exact hv
theorem dArg_off {P:Params}{f:Nat}{q:Nat × Nat × Nat}{d:AV}{x:Ad}{vs:List Value}(h:d.off? = some q) (hx:ad[q.1]? = some x) (hv:VRs K P ad fz (dArg f d) vs):VRs K P ad fz (zk0 f (x.z q.2.1 + q.2.2)) vs:=by
 unfold dArg at hv
 unfold zk0
 cases b:Nat.beq f 715 with
 | true=>rw [b] at hv;exact hv.qNil .nil
 | false=>
  rw [b] at hv
  exact hv.qCons (AV.off_e h▸rfl) λ g1 g2=>g2.qNil (g1.qOff h λ {y} t hy=>Option.some.inj (hx.symm.trans hy)▸.cons (.int _ _) .nil)
theorem zkk {D i f:Nat}{d:AV}{r:Ou AV}{vs:List Value}(hG:∀ f d ns a v b,U.gen f d ns a v b→GenB prog w K ti p loose mg mb D f d ns a v b)
  (Y:Ok p loose mg mb K c D) (I:Inv U K w.params ti fr c σ ad own tb fz m s) (hv:VRs K w.params ad fz (.hnd i::dArg f d) vs) (h:tapeCall f i d σ=some r) :
  SdV (model prog w) U K w.params ti fr RX c ad fz m (.call (.ref f) ⟨vs,[]⟩) r s:=by
 refine bd_q h λ l hl h=>?_
 have hi:=srcAt_e hl
 cases l with
 | nil=>exact nn h
 | cons t l=>
  refine tr_q h (λ q hq h=>gd_q h λ e h=>bd_q h λ n hn h=>gd_q h λ e2 h=>?_) λ h=>bd_q h λ q hq h=>gd_q h λ e h=>bd_q h λ o ho h=>gd_q h λ e1 h=>gd_q h λ e2 h=>gd_q h λ e3 h=>?_
  ·rw [Tape.call_e hq] at hi
   rw [← Option.some.inj h]
   refine hv.qCons rfl λ g1 g2=>sd_gen (d:=n) hG Y I hi (λ x hx ns a z=>?_) (.cons g1 (dArg_nat hn g2))
   rw [← Nat.eq_of_beq_eq_true e,Nat.eq_of_beq_eq_true e2];exact z
  ·rw [Tape.callo_e hq] at hi
   rw [← Option.some.inj h]
   refine hv.qCons rfl λ g1 g2=>g1.qHnd rfl λ {x} hx=>?_
   rw [← Nat.eq_of_beq_eq_true e2] at hx
   refine sd_gen (d:=x.z o.2.1 + o.2.2) hG Y I hi (λ x' hx' ns a z=>?_) (.cons (.hnd (Nat.eq_of_beq_eq_true e2▸hx)) (dArg_off ho hx g2))
   rw [← Nat.eq_of_beq_eq_true e2] at hx'
   rw [← Nat.eq_of_beq_eq_true e,Nat.eq_of_beq_eq_true e1,Nat.eq_of_beq_eq_true e3,Option.some.inj (hx.symm.trans hx')];exact z
end
end
end AI
section
section
noncomputable def lkT:Look:={ strict:=false,foot:=none,bare:=[] }
theorem nr_nil (lk:Look):noRoadLSs lk []=true:=rfl
theorem nr_cons (lk:Look) (s:Stmt) (r:List Stmt):noRoadLSs lk (s::r)=(noRoadLS lk s && noRoadLSs lk r):=rfl
theorem noRoad_app (lk:Look) (a b:List Stmt):noRoadLSs lk (a++b)=(noRoadLSs lk a && noRoadLSs lk b):=by
 induction a with
 | nil=>rw [List.nil_append,nr_nil];rfl
 | cons s a ih=>rw [List.cons_append,nr_cons,nr_cons,ih,Bool.and_assoc]
theorem long_str (x:Str) (h1:roadStr x=false) (h2:x.opensWith "__" = false) (h3:frameAttrs.contains x=false):lkT.str x=true:=by
 have w:lkT.word x=true:=by
  unfold Look.word attrL
  rw [h2,h3]
  rfl
 unfold Look.str
 rw [h1,w]
 simp
theorem long_stmt (x:Str) (n:Str) (p q r:Pos) (k:Nat) (hn:lkT.name n=true) (h:lkT.str x=true) :
  noRoadLS lkT (.Assign [.Name n p] (.Constant (.str x) k q) r)=true:=by
 have e:noRoadLS lkT (.Assign [.Name n p] (.Constant (.str x) k q) r)=(lkT.stores [.Name n p] && (lkT.out.name n && true) && lkT.str x):=rfl
 have e2:lkT.stores [.Name n p]=true:=rfl
 have e3:lkT.out.name n=true:=hn
 rw [e,h,e2,e3];rfl
noncomputable def zkr:List Stmt:=pw_pc0148_01.main.body
theorem cut:noRoadLSs lkT zkr=(noRoadLSs lkT (zkr.take 61) && noRoadLSs lkT (zkr.drop 61)):=by
 rw [← noRoad_app,List.take_append_drop]
theorem first_part:noRoadLSs lkT (zkr.take 61)=true:=by
 rw [PySem.W.Fast.te8326940854005059898];kernel_rfl
theorem last_part:noRoadLSs lkT (zkr.drop 62)=true:=by
 rw [PySem.W.Fast.te8326940854005059898];kernel_rfl
noncomputable def zq9:Str:=match zkr.drop 61 with
 | .Assign _ (.Constant (.str x) _ _) _::_=>x
 | _ => "x"
theorem resL:∃ l:List Char,zq9=Str.ofString (String.ofList l)∧(l.all λ c=>!(Nat.beq c.toNat 46) && !(Nat.beq c.toNat 123) && !(Nat.beq c.toNat 125))=true∧Nat.ble 21 l.length=true∧(l.head?.all λ c=>!(Nat.beq c.toNat 95))=true:=by
 refine ⟨_,rfl,?_,?_,?_⟩<;>kernel_rfl
theorem resC:∃ l:List Nat,zq9=⟨l.toArray⟩∧(∀ c∈l,c≠46∧c≠123∧c≠125)∧21≤l.length∧∀ c,l.head? = some c→c≠95:=by
 obtain ⟨l,e,h1,h2,h3⟩:=resL
 refine ⟨l.map Char.toNat,by rw [e,PySem.W.Fast.ofString_ofList],?_,by rw [List.length_map];exact Nat.le_of_ble_eq_true h2,?_⟩
 ·intro c hc
  obtain ⟨d,hd,rfl⟩:=List.mem_map.mp hc
  have:=List.all_eq_true.mp h1 d hd
  simp only [Bool.and_eq_true,Bool.not_eq_true'] at this
  exact ⟨Nat.ne_of_beq_eq_false this.1.1,Nat.ne_of_beq_eq_false this.1.2,Nat.ne_of_beq_eq_false this.2⟩
 ·intro c hc
  cases l with
  | nil=>cases hc
  | cons d l=>
   cases hc
   simp only [List.head?_cons,Option.all_some,Bool.not_eq_true'] at h3
   exact Nat.ne_of_beq_eq_false h3
theorem r1:roadStr zq9=false:=by
 obtain ⟨l,e,h,_,_⟩:=resC
 unfold roadStr
 rw [e,← Array.any_toList,← Array.any_toList,Bool.or_eq_false_iff]
 constructor
 ·rw [List.any_eq_false]
  intro c hc q
  have:=h c hc
  simp only [Bool.or_eq_true,beq_iff_eq] at q
  omega
 ·have e:(l.any λ c=>c == 46)=false:=by
   rw [List.any_eq_false]
   intro c hc q
   have:=h c hc
   simp only [beq_iff_eq] at q
   omega
  show ((l.any λ c=>c == 46) && _)=false
  rw [e];rfl
theorem r2:zq9.opensWith "__" = false:=by
 obtain ⟨l,e,_,h2,h3⟩:=resC
 rw [e]
 cases l with
 | nil=>simp at h2
 | cons a l=>
  have ha:=h3 a rfl
  cases l with
  | nil=>simp at h2
  | cons b l=>
   unfold Str.opensWith
   have e2:(Str.ofString "__").cps = #[95,95]:=by decide +kernel
   rw [e2]
   rw [beq_eq_false_iff_ne]
   intro q
   have q0:=congrArg (λ x:Array Nat=>x[0]?) q
   simp at q0
   exact ha q0
theorem r3a:(frameAttrs.all λ y=>Nat.ble y.cps.size 20)=true:=by kernel_rfl
theorem r3:frameAttrs.contains zq9=false:=by
 cases h:frameAttrs.contains zq9 with
 | false=>rfl
 | true=>
  have m:=List.contains_iff_mem.mp h
  have a:=Nat.le_of_ble_eq_true (List.all_eq_true.mp r3a _ m)
  obtain ⟨l,e,_,h2,_⟩:=resC
  rw [e] at a
  simp at a
  omega
theorem nameR:lkT.name "RESERVED" = true:=by kernel_rfl
theorem res_part:noRoadLSs lkT ((zkr.drop 61).take 1)=true:=by
 show noRoadLSs lkT [_]=true
 rw [nr_cons,nr_nil,Bool.and_true]
 refine long_stmt zq9 "RESERVED" _ _ _ _ nameR (long_str _ ?_ ?_ ?_)
 ·exact r1
 ·exact r2
 ·exact r3
theorem body_ok:noRoadLSs lkT zkr=true:=by
 have e:zkr.drop 61=(zkr.drop 61).take 1++zkr.drop 62:=rfl
 rw [cut,first_part,e,noRoad_app,res_part,last_part];rfl
theorem lk1:((importedModules pw_pc0148_01.main.body).all cThrough.contains)=true:=by kernel_rfl
theorem lk2:((["vars", "dir", "locals"]:List Str).filter (readsOut pw_pc0148_01 pw_pc0148_01.main.body)).isEmpty=true:=by
 rw [PySem.W.Fast.te13343964577679436407];kernel_rfl
theorem look_part:noRoadLSs { strict:=!(importedModules rw_pc0148_01.row.prog.main.body).all cThrough.contains,foot:=none,bare:=(["vars", "dir", "locals"]:List Str).filter (readsOut rw_pc0148_01.row.prog rw_pc0148_01.row.prog.main.body) } rw_pc0148_01.row.prog.main.body=true:=by
 show noRoadLSs { strict:=!(importedModules pw_pc0148_01.main.body).all cThrough.contains,foot:=none,bare:=(["vars", "dir", "locals"]:List Str).filter (readsOut pw_pc0148_01 pw_pc0148_01.main.body) } pw_pc0148_01.main.body=true
 rw [lk1,List.isEmpty_iff.mp lk2]
 exact body_ok
set_option maxHeartbeats 0 in
theorem well:rw_pc0148_01.wellSaid=true:=by
 unfold OpenLaw.wellSaid OpenRow.wellSaid OpenRow.partSaid looksOpen
 repeat' (with_reducible refine look_both ?_ ?_)
 all_goals first
  | with_reducible exact look_part
  | ((try rw [PySem.W.Fast.te11788848310118352699]);(try rw [PySem.W.Fast.te8377067652309620493]);(try rw [PySem.W.Fast.te17119622794617984870]);(try rw [PySem.W.Fast.te8326940854005059898]);(try rw [PySem.W.Fast.te17868728402115742887]);(try rw [PySem.W.Fast.te14412699480532031325]);(try rw [PySem.W.Fast.te12749700546528644094]);(try rw [PySem.W.Fast.te10501279942588096481]);(try rw [PySem.W.Fast.te8179353310426384613]);(try rw [PySem.W.Fast.te9558739934217749035]);(try rw [PySem.W.Fast.te16286561074155671207]);(try rw [PySem.W.Fast.te797321630700447069]);(try rw [PySem.W.Fast.te6984425678791042302]);(try rw [PySem.W.Fast.te10792542408131684335]);(try rw [PySem.W.Fast.te18344453789297297638]);(try rw [PySem.W.Fast.te482687673346738481]);(try rw [PySem.W.Fast.te12879404354523853263]);(try rw [PySem.W.Fast.te9807087744658564304]);(try rw [PySem.W.Fast.te12862048085361865435]);(try rw [PySem.W.Fast.te3471404346716756564]);kernel_rfl)
end
end
section
noncomputable def runG (S:SharedT→Thread→Option (SharedT × Thread)) (ok:Thread→Bool):Nat→SharedT→Thread→Option SharedT
 | 0,_,_=>none
 | n + 1,s,t=>match through t with
  | true=>some s
  | false=>match ok t with
   | false=>none
   | true=>match S s t with
    | some r=>runG S ok n r.1 r.2
    | none=>none
theorem runG_spec {tb:String→Option Builtin}{p:Program}{w:World}{n₀:Nat}{ann:Option Value}:∀ {n:Nat}{s r:SharedT}{t:Thread},
  runG (stepT (denote tb) p w) (stepOk n₀ ann) n s t=some r→topRun tb p w n₀ ann n s.abs t=some r.abs
 | 0,_,_,_,h=>by cases h
 | n + 1,s,r,t,h=>by
  unfold runG at h
  unfold topRun
  cases he:through t with
  | true=>rw [he] at h;cases h;rfl
  | false=>
   rw [he] at h
   cases hk:stepOk n₀ ann t with
   | false=>rw [hk] at h;cases h
   | true=>
    rw [hk] at h
    cases hs:stepT (denote tb) p w s t with
    | none=>rw [hs] at h;cases h
    | some q=>obtain ⟨s₂,t₂⟩:=q;rw [hs] at h;rw [stepT_spec hs];exact runG_spec h
noncomputable def bootT (P:Params):BT:=((((((((((BT.nil.ins 0 (boot_o_0 P)).ins 1 (boot_o_1 P)).ins 2 (boot_o_2 P)).ins 3 (boot_o_3 P)).ins 4 (boot_o_4 P)).ins 5 (boot_o_5 P)).ins 6 (boot_o_6 P)).ins 7 (boot_o_7 P)).ins 8 (boot_o_8 P)).ins 9 (boot_o_9 P)).ins 10 (boot_o_10 P)
noncomputable def S0 (P:Params) (os:OsState):SharedT:=⟨bootT P,11,(boot_heap P).life,#[],boot_drawn,boot_toks,os⟩
theorem S0_abs (P:Params) (os:OsState):(S0 P os).abs=⟨boot_heap P,#[],boot_drawn,boot_toks,os⟩:=by
 kernel_rfl
noncomputable abbrev stepQ:=PySem.W.Fast.tw10156331382660048174
noncomputable abbrev denoteQ:=PySem.W.Fast.tw11892475500146522536
noncomputable abbrev tableQ:=PySem.W.Fast.tw14364793385576792824
noncomputable abbrev okQ:=PySem.W.Fast.tw6613529449190102663
noncomputable abbrev openSeenQ:=PySem.W.Fast.tw4187177175401517315
noncomputable def zq5:Program:=view pw_pc0148_01 [83]
noncomputable def zx7:List Str:=(pw_pc0148_01.boundNames).filter λ n=>!(n == ("law":Str))
noncomputable def defOfS:Option Stmt→Str × Arguments × List Stmt × Scope
 | some (.FunctionDef n a b _ _ _ sc _ _ _)=>(n,a,b,sc)
 | _=>("",⟨[],[],none,[],[],none,[]⟩,[],⟨.function,[],false,false,[]⟩)
noncomputable def topD (i:Nat):Str × Arguments × List Stmt × Scope:=defOfS (pw_pc0148_01.main.body[i]?)
noncomputable def metD (i j:Nat):Str × Arguments × List Stmt × Scope:=match pw_pc0148_01.main.body[i]? with
 | some (.ClassDef _ _ _ b _ _ _ _ _ _ _)=>defOfS (b[j]?)
 | _=>defOfS none
noncomputable abbrev fnO (d:Str × Arguments × List Stmt × Scope) (qual:Str) (dV pm cdv:Value):FuncData:=fnOf d.1 qual d.2.1 d.2.2.1 d.2.2.2 dV .none .none pm none cdv .none
noncomputable def KF (P:Params):Frag:=[
 (3,⟨(.type "dict"),none,(.dict #[⟨PyData.keyHash P "__name__",(.str "__name__" 165),(.str "law_pc0148_01" 1093)⟩,⟨PyData.keyHash P "__doc__",(.str "__doc__" 166),.none⟩,⟨PyData.keyHash P "__package__",(.str "__package__" 167),.none⟩,⟨PyData.keyHash P "__loader__",(.str "__loader__" 168),(.builtin "__main__.__loader__#opaque")⟩,⟨PyData.keyHash P "__spec__",(.str "__spec__" 169),.none⟩,⟨PyData.keyHash P "__annotations__",(.str "__annotations__" 170),(.ref 6)⟩,⟨PyData.keyHash P "__builtins__",(.str "__builtins__" 171),(.ref 4)⟩,⟨PyData.keyHash P "__file__",(.str "__file__" 173),(.str "/claim/cut.py" 172)⟩,⟨PyData.keyHash P "__cached__",(.str "__cached__" 174),.none⟩,⟨PyData.keyHash P "_wall",(.str "_wall" 193),(.ref 21)⟩,⟨PyData.keyHash P "MOST_SUBSCRIPTS",(.str "MOST_SUBSCRIPTS" 197),(.int 7 196)⟩,⟨PyData.keyHash P "FIGURE_NAMES",(.str "FIGURE_NAMES" 231),(.ref 22)⟩,⟨PyData.keyHash P "is_part_next",(.str "is_part_next" 240),(.ref 29)⟩,⟨PyData.keyHash P "read_subscripts",(.str "read_subscripts" 249),(.ref 36)⟩,⟨PyData.keyHash P "read_part",(.str "read_part" 259),(.ref 43)⟩,⟨PyData.keyHash P "read_ref",(.str "read_ref" 271),(.ref 50)⟩,⟨PyData.keyHash P "read_all",(.str "read_all" 279),(.ref 57)⟩,⟨PyData.keyHash P "read_figure",(.str "read_figure" 286),(.ref 64)⟩,⟨PyData.keyHash P "read_operand",(.str "read_operand" 295),(.ref 71)⟩,⟨PyData.keyHash P "LedgerError",(.str "LedgerError" 337),(.ref 97)⟩,⟨PyData.keyHash P "TokenFault",(.str "TokenFault" 353),(.ref 110)⟩,⟨PyData.keyHash P "GrammarFault",(.str "GrammarFault" 369),(.ref 122)⟩,⟨PyData.keyHash P "FIGURES",(.str "FIGURES" 373),(.str "0123456789" 372)⟩,⟨PyData.keyHash P "cut_quotient",(.str "cut_quotient" 381),(.ref 131)⟩,⟨PyData.keyHash P "decimal",(.str "decimal" 390),(.ref 139)⟩,⟨PyData.keyHash P "negated",(.str "negated" 397),(.ref 146)⟩,⟨PyData.keyHash P "units_at",(.str "units_at" 408),(.ref 153)⟩,⟨PyData.keyHash P "is_whole",(.str "is_whole" 415),(.ref 160)⟩,⟨PyData.keyHash P "whole_of",(.str "whole_of" 422),(.ref 167)⟩,⟨PyData.keyHash P "worth_of",(.str "worth_of" 431),(.ref 174)⟩,⟨PyData.keyHash P "read_decimal",(.str "read_decimal" 444),(.ref 181)⟩,⟨PyData.keyHash P "MOST_DEEP_expressions",(.str "MOST_DEEP_expressions" 448),(.int 20 447)⟩,⟨PyData.keyHash P "read_expression",(.str "read_expression" 455),(.ref 188)⟩,⟨PyData.keyHash P "sign_among",(.str "sign_among" 464),(.ref 195)⟩,⟨PyData.keyHash P "read_sum",(.str "read_sum" 474),(.ref 202)⟩,⟨PyData.keyHash P "read_product",(.str "read_product" 484),(.ref 209)⟩,⟨PyData.keyHash P "read_factor",(.str "read_factor" 495),(.ref 216)⟩,⟨PyData.keyHash P "is_lone_number",(.str "is_lone_number" 504),(.ref 223)⟩,⟨PyData.keyHash P "read_power",(.str "read_power" 513),(.ref 230)⟩,⟨PyData.keyHash P "read_primary",(.str "read_primary" 523),(.ref 237)⟩,⟨PyData.keyHash P "MOST_DEEP_conditions",(.str "MOST_DEEP_conditions" 527),(.int 20 526)⟩,⟨PyData.keyHash P "OPPOSITES",(.str "OPPOSITES" 546),(.ref 238)⟩,⟨PyData.keyHash P "CLASSES",(.str "CLASSES" 551),(.ref 239)⟩,⟨PyData.keyHash P "WORDS_OF_SIGNS",(.str "WORDS_OF_SIGNS" 567),(.ref 240)⟩,⟨PyData.keyHash P "WORDS_OF_RELATIONS",(.str "WORDS_OF_RELATIONS" 577),(.ref 241)⟩,⟨PyData.keyHash P "RELATIONS",(.str "RELATIONS" 583),(.ref 242)⟩,⟨PyData.keyHash P "word_here",(.str "word_here" 593),(.ref 250)⟩,⟨PyData.keyHash P "is_relation_at",(.str "is_relation_at" 602),(.ref 257)⟩,⟨PyData.keyHash P "place_of_word",(.str "place_of_word" 610),(.ref 264)⟩,⟨PyData.keyHash P "is_predicate_here",(.str "is_predicate_here" 619),(.ref 271)⟩,⟨PyData.keyHash P "is_bare_relation_here",(.str "is_bare_relation_here" 626),(.ref 278)⟩,⟨PyData.keyHash P "ConditionReader",(.str "ConditionReader" 754),(.ref 372)⟩,⟨PyData.keyHash P "read_condition",(.str "read_condition" 763),(.ref 384)⟩,⟨PyData.keyHash P "body_here",(.str "body_here" 774),(.ref 391)⟩,⟨PyData.keyHash P "name_pair",(.str "name_pair" 784),(.ref 398)⟩,⟨PyData.keyHash P "read_if",(.str "read_if" 795),(.ref 405)⟩,⟨PyData.keyHash P "read_goto",(.str "read_goto" 804),(.ref 412)⟩,⟨PyData.keyHash P "read_exit",(.str "read_exit" 812),(.ref 419)⟩,⟨PyData.keyHash P "read_stop",(.str "read_stop" 820),(.ref 426)⟩,⟨PyData.keyHash P "Token",(.str "Token" 866),(.ref 452)⟩,⟨PyData.keyHash P "MOST_OCTET",(.str "MOST_OCTET" 870),(.int 255 869)⟩,⟨PyData.keyHash P "RESERVED",(.str "RESERVED" 872),(.str zq9 871)⟩,⟨PyData.keyHash P "is_reserved",(.str "is_reserved" 879),(.ref 463)⟩,⟨PyData.keyHash P "octets_of_text",(.str "octets_of_text" 885),(.ref 468)⟩,⟨PyData.keyHash P "Reader",(.str "Reader" 1092),(.ref 637)⟩,⟨PyData.keyHash P "_law_draw",(.str "_law_draw" 1104),(.ref 648)⟩,⟨PyData.keyHash P "_law_source",(.str "_law_source" 1110),(.ref 653)⟩,⟨PyData.keyHash P "_law_A",(.str "_law_A" 1113),(.ref 656)⟩,⟨PyData.keyHash P "_law_B",(.str "_law_B" 1117),(.ref 659)⟩,⟨PyData.keyHash P "_law_T",(.str "_law_T" 1123),(.ref 664)⟩,⟨PyData.keyHash P "_law_ONE",(.str "_law_ONE" 1127),(.ref 666)⟩,⟨PyData.keyHash P "_law_REFS",(.str "_law_REFS" 1133),(.ref 673)⟩,⟨PyData.keyHash P "_law_CONDS",(.str "_law_CONDS" 1139),(.ref 680)⟩,⟨PyData.keyHash P "_law_pick",(.str "_law_pick" 1147),(.ref 687)⟩,⟨PyData.keyHash P "_law_tokens",(.str "_law_tokens" 1157),(.ref 694)⟩,⟨PyData.keyHash P "_law_body",(.str "_law_body" 1165),(.ref 701)⟩,⟨PyData.keyHash P "_law_heard",(.str "_law_heard" 1175),(.ref 708)⟩,⟨PyData.keyHash P "_law_small",(.str "_law_small" 1185),(.ref 715)⟩,⟨PyData.keyHash P "_law_read",(.str "_law_read" 1193),(.ref 722)⟩,⟨PyData.keyHash P "_law_statements",(.str "_law_statements" 1201),(.ref 729)⟩,⟨PyData.keyHash P "_law_body_words",(.str "_law_body_words" 1215),(.ref 736)⟩,⟨PyData.keyHash P "_law_if_words",(.str "_law_if_words" 1230),(.ref 743)⟩,⟨PyData.keyHash P "law",(.str "law" 1236),(.ref 748)⟩] 83),#[]⟩),
 (22,⟨(.type "dict"),none,(.dict #[⟨PyData.keyHash P "ZERO",(.str "ZERO" 198),(.str "ZERO" 199)⟩,⟨PyData.keyHash P "ZEROS",(.str "ZEROS" 200),(.str "ZERO" 201)⟩,⟨PyData.keyHash P "ZEROES",(.str "ZEROES" 202),(.str "ZERO" 203)⟩,⟨PyData.keyHash P "SPACE",(.str "SPACE" 204),(.str "SPACE" 205)⟩,⟨PyData.keyHash P "SPACES",(.str "SPACES" 206),(.str "SPACE" 207)⟩,⟨PyData.keyHash P "HIGH-VALUE",(.str "HIGH-VALUE" 208),(.str "HIGH" 209)⟩,⟨PyData.keyHash P "HIGH-VALUES",(.str "HIGH-VALUES" 210),(.str "HIGH" 211)⟩,⟨PyData.keyHash P "LOW-VALUE",(.str "LOW-VALUE" 212),(.str "LOW" 213)⟩,⟨PyData.keyHash P "LOW-VALUES",(.str "LOW-VALUES" 214),(.str "LOW" 215)⟩,⟨PyData.keyHash P "QUOTE",(.str "QUOTE" 216),(.str "QUOTE" 217)⟩,⟨PyData.keyHash P "QUOTES",(.str "QUOTES" 218),(.str "QUOTE" 219)⟩] 11),#[]⟩),
 (28,⟨(.type "code"),none,(.fields #[(.str "is_part_next" 232),(.str "is_part_next" 233),(.str "/claim/cut.py" 234),(.int 7 0),(.int 1 0),(.int 0 0),(.int 0 0),(.int 3 0),(.ref 23),(.bool true),(.int 181 0),(.ref 24),.none,(.ref 25),(.ref 26),(.ref 27),(.int 238 0),(.int 7 0),(.str "/claim/cut.py" 239)]),#[]⟩),
 (29,⟨(.type "function"),none,(.func (fnO (topD 4) "is_part_next" .none (.str "ledgerspeak.references" 194) (.ref 28))),#[]⟩),
 (35,⟨(.type "code"),none,(.fields #[(.str "read_subscripts" 241),(.str "read_subscripts" 242),(.str "/claim/cut.py" 243),(.int 20 0),(.int 2 0),(.int 0 0),(.int 0 0),(.int 3 0),(.ref 30),(.bool true),(.int 181 0),(.ref 31),.none,(.ref 32),(.ref 33),(.ref 34),(.int 247 0),(.int 20 0),(.str "/claim/cut.py" 248)]),#[]⟩),
 (36,⟨(.type "function"),none,(.func (fnO (topD 5) "read_subscripts" .none (.str "ledgerspeak.references" 194) (.ref 35))),#[]⟩),
 (49,⟨(.type "code"),none,(.fields #[(.str "read_ref" 260),(.str "read_ref" 261),(.str "/claim/cut.py" 262),(.int 35 0),(.int 2 0),(.int 0 0),(.int 0 0),(.int 3 0),(.ref 44),(.bool true),(.int 181 0),(.ref 45),.none,(.ref 46),(.ref 47),(.ref 48),(.int 269 0),(.int 35 0),(.str "/claim/cut.py" 270)]),#[]⟩),
 (50,⟨(.type "function"),none,(.func (fnO (topD 7) "read_ref" .none (.str "ledgerspeak.references" 194) (.ref 49))),#[]⟩),
 (63,⟨(.type "code"),none,(.fields #[(.str "read_figure" 280),(.str "read_figure" 281),(.str "/claim/cut.py" 282),(.int 52 0),(.int 1 0),(.int 0 0),(.int 0 0),(.int 3 0),(.ref 58),(.bool true),(.int 181 0),(.ref 59),.none,(.ref 60),(.ref 61),(.ref 62),(.int 284 0),(.int 52 0),(.str "/claim/cut.py" 285)]),#[]⟩),
 (64,⟨(.type "function"),none,(.func (fnO (topD 9) "read_figure" .none (.str "ledgerspeak.references" 194) (.ref 63))),#[]⟩),
 (70,⟨(.type "code"),none,(.fields #[(.str "read_operand" 287),(.str "read_operand" 288),(.str "/claim/cut.py" 289),(.int 56 0),(.int 2 0),(.int 0 0),(.int 0 0),(.int 3 0),(.ref 65),(.bool true),(.int 181 0),(.ref 66),.none,(.ref 67),(.ref 68),(.ref 69),(.int 293 0),(.int 56 0),(.str "/claim/cut.py" 294)]),#[]⟩),
 (71,⟨(.type "function"),none,(.func (fnO (topD 10) "read_operand" .none (.str "ledgerspeak.references" 194) (.ref 70))),#[]⟩),
 (79,⟨(.type "tuple"),none,(.seq #[(.int 0 310),(.int 0 311)] 0),#[]⟩),
 (80,⟨(.type "tuple"),none,(.seq #[(.ref 79)] 0),#[]⟩),
 (86,⟨(.type "code"),none,(.fields #[(.str "__init__" 312),(.str "LedgerError.__init__" 313),(.str "/claim/cut.py" 314),(.int 68 0),(.int 3 0),(.int 0 0),(.int 0 0),(.int 3 0),(.ref 81),(.bool true),(.int 181 0),(.ref 82),.none,(.ref 83),(.ref 84),(.ref 85),(.int 318 0),(.int 68 0),(.str "/claim/cut.py" 319)]),#[]⟩),
 (87,⟨(.type "function"),none,(.func (fnO (metD 12 0) "LedgerError.__init__" (.ref 80) (.str "ledgerspeak.errors" 296) (.ref 86))),#[]⟩),
 (93,⟨(.type "code"),none,(.fields #[(.str "told" 321),(.str "LedgerError.told" 322),(.str "/claim/cut.py" 323),(.int 73 0),(.int 1 0),(.int 0 0),(.int 0 0),(.int 3 0),(.ref 88),(.bool true),(.int 181 0),(.ref 89),.none,(.ref 90),(.ref 91),(.ref 92),(.int 325 0),(.int 73 0),(.str "/claim/cut.py" 326)]),#[]⟩),
 (94,⟨(.type "function"),none,(.func (fnO (metD 12 1) "LedgerError.told" .none (.str "ledgerspeak.errors" 296) (.ref 93))),#[]⟩),
 (96,⟨(.type "dict"),none,(.dict #[⟨PyData.keyHash P "__module__",(.str "__module__" 305),(.str "ledgerspeak.errors" 296)⟩,⟨PyData.keyHash P "__firstlineno__",(.str "__firstlineno__" 309),(.int 66 308)⟩,⟨PyData.keyHash P "__init__",(.str "__init__" 320),(.ref 87)⟩,⟨PyData.keyHash P "told",(.str "told" 327),(.ref 94)⟩,⟨PyData.keyHash P "__static_attributes__",(.str "__static_attributes__" 330),(.ref 95)⟩,⟨PyData.keyHash P "__weakref__",(.str "__weakref__" 332),(.ref 98)⟩,⟨PyData.keyHash P "__doc__",(.str "__doc__" 333),.none⟩] 3),#[]⟩),
 (97,⟨(.type "type"),none,(.cls { name := "LedgerError",bases:=[(.type "Exception")],mro:=[(.ref 97),(.type "Exception"),(.type "BaseException"),(.type "object")],ns:=96,qualname := "LedgerError",hasDict:=true,slotNames:=[],subclasses:=[(.ref 110),(.ref 122)],abstract:=false,collection:=none,hasDel:=false }),#[(some (.ref 72)),none,(some (.str "LedgerError" 298)),(some (.str "LedgerError" 306)),(some (.builtin "Exception.__new__")),(some (.bool true))]⟩),
 (98,⟨(.type "getset_descriptor"),none,(.fields #[(.str "__weakref__" 331),(.ref 97),(.builtin "ExceptionGroup.__weakref__"),.none]),#[]⟩),
 (101,⟨(.type "tuple"),none,(.seq #[(.ref 97)] 0),#[]⟩),
 (113,⟨(.type "tuple"),none,(.seq #[(.ref 97)] 0),#[]⟩),
 (121,⟨(.type "dict"),none,(.dict #[⟨PyData.keyHash P "__module__",(.str "__module__" 361),(.str "ledgerspeak.errors" 296)⟩,⟨PyData.keyHash P "__firstlineno__",(.str "__firstlineno__" 365),(.int 77 364)⟩,⟨PyData.keyHash P "__static_attributes__",(.str "__static_attributes__" 366),(.ref 120)⟩,⟨PyData.keyHash P "__doc__",(.str "__doc__" 367),.none⟩] 2),#[]⟩),
 (122,⟨(.type "type"),none,(.cls { name := "GrammarFault",bases:=[(.ref 97)],mro:=[(.ref 122),(.ref 97),(.type "Exception"),(.type "BaseException"),(.type "object")],ns:=121,qualname := "GrammarFault",hasDict:=true,slotNames:=[],subclasses:=[],abstract:=false,collection:=none,hasDel:=false }),#[(some (.ref 113)),none,(some (.str "GrammarFault" 354)),(some (.str "GrammarFault" 362)),(some (.builtin "Exception.__new__")),(some (.bool true))]⟩),
 (132,⟨(.type "tuple"),none,(.seq #[(.int 0 382)] 0),#[]⟩),
 (138,⟨(.type "code"),none,(.fields #[(.str "decimal" 383),(.str "decimal" 384),(.str "/claim/cut.py" 385),(.int 85 0),(.int 2 0),(.int 0 0),(.int 0 0),(.int 3 0),(.ref 133),(.bool true),(.int 181 0),(.ref 134),.none,(.ref 135),(.ref 136),(.ref 137),(.int 388 0),(.int 85 0),(.str "/claim/cut.py" 389)]),#[]⟩),
 (139,⟨(.type "function"),none,(.func (fnO (topD 18) "decimal" (.ref 132) (.str "ledgerspeak.decimals" 370) (.ref 138))),#[]⟩),
 (173,⟨(.type "code"),none,(.fields #[(.str "worth_of" 423),(.str "worth_of" 424),(.str "/claim/cut.py" 425),(.int 106 0),(.int 1 0),(.int 0 0),(.int 0 0),(.int 3 0),(.ref 168),(.bool true),(.int 181 0),(.ref 169),.none,(.ref 170),(.ref 171),(.ref 172),(.int 429 0),(.int 106 0),(.str "/claim/cut.py" 430)]),#[]⟩),
 (174,⟨(.type "function"),none,(.func (fnO (topD 23) "worth_of" .none (.str "ledgerspeak.decimals" 370) (.ref 173))),#[]⟩),
 (180,⟨(.type "code"),none,(.fields #[(.str "read_decimal" 432),(.str "read_decimal" 433),(.str "/claim/cut.py" 434),(.int 111 0),(.int 1 0),(.int 0 0),(.int 0 0),(.int 3 0),(.ref 175),(.bool true),(.int 181 0),(.ref 176),.none,(.ref 177),(.ref 178),(.ref 179),(.int 442 0),(.int 111 0),(.str "/claim/cut.py" 443)]),#[]⟩),
 (181,⟨(.type "function"),none,(.func (fnO (topD 24) "read_decimal" .none (.str "ledgerspeak.decimals" 370) (.ref 180))),#[]⟩),
 (187,⟨(.type "code"),none,(.fields #[(.str "read_expression" 449),(.str "read_expression" 450),(.str "/claim/cut.py" 451),(.int 128 0),(.int 1 0),(.int 0 0),(.int 0 0),(.int 3 0),(.ref 182),(.bool true),(.int 181 0),(.ref 183),.none,(.ref 184),(.ref 185),(.ref 186),(.int 453 0),(.int 128 0),(.str "/claim/cut.py" 454)]),#[]⟩),
 (188,⟨(.type "function"),none,(.func (fnO (topD 27) "read_expression" .none (.str "ledgerspeak.expressions" 445) (.ref 187))),#[]⟩),
 (194,⟨(.type "code"),none,(.fields #[(.str "sign_among" 456),(.str "sign_among" 457),(.str "/claim/cut.py" 458),(.int 130 0),(.int 2 0),(.int 0 0),(.int 0 0),(.int 3 0),(.ref 189),(.bool true),(.int 181 0),(.ref 190),.none,(.ref 191),(.ref 192),(.ref 193),(.int 462 0),(.int 130 0),(.str "/claim/cut.py" 463)]),#[]⟩),
 (195,⟨(.type "function"),none,(.func (fnO (topD 28) "sign_among" .none (.str "ledgerspeak.expressions" 445) (.ref 194))),#[]⟩),
 (201,⟨(.type "code"),none,(.fields #[(.str "read_sum" 465),(.str "read_sum" 466),(.str "/claim/cut.py" 467),(.int 135 0),(.int 2 0),(.int 0 0),(.int 0 0),(.int 3 0),(.ref 196),(.bool true),(.int 181 0),(.ref 197),.none,(.ref 198),(.ref 199),(.ref 200),(.int 472 0),(.int 135 0),(.str "/claim/cut.py" 473)]),#[]⟩),
 (202,⟨(.type "function"),none,(.func (fnO (topD 29) "read_sum" .none (.str "ledgerspeak.expressions" 445) (.ref 201))),#[]⟩),
 (208,⟨(.type "code"),none,(.fields #[(.str "read_product" 475),(.str "read_product" 476),(.str "/claim/cut.py" 477),(.int 143 0),(.int 2 0),(.int 0 0),(.int 0 0),(.int 3 0),(.ref 203),(.bool true),(.int 181 0),(.ref 204),.none,(.ref 205),(.ref 206),(.ref 207),(.int 482 0),(.int 143 0),(.str "/claim/cut.py" 483)]),#[]⟩),
 (209,⟨(.type "function"),none,(.func (fnO (topD 30) "read_product" .none (.str "ledgerspeak.expressions" 445) (.ref 208))),#[]⟩),
 (215,⟨(.type "code"),none,(.fields #[(.str "read_factor" 485),(.str "read_factor" 486),(.str "/claim/cut.py" 487),(.int 149 0),(.int 2 0),(.int 0 0),(.int 0 0),(.int 3 0),(.ref 210),(.bool true),(.int 181 0),(.ref 211),.none,(.ref 212),(.ref 213),(.ref 214),(.int 493 0),(.int 149 0),(.str "/claim/cut.py" 494)]),#[]⟩),
 (216,⟨(.type "function"),none,(.func (fnO (topD 31) "read_factor" .none (.str "ledgerspeak.expressions" 445) (.ref 215))),#[]⟩),
 (222,⟨(.type "code"),none,(.fields #[(.str "is_lone_number" 496),(.str "is_lone_number" 497),(.str "/claim/cut.py" 498),(.int 159 0),(.int 1 0),(.int 0 0),(.int 0 0),(.int 3 0),(.ref 217),(.bool true),(.int 181 0),(.ref 218),.none,(.ref 219),(.ref 220),(.ref 221),(.int 502 0),(.int 159 0),(.str "/claim/cut.py" 503)]),#[]⟩),
 (223,⟨(.type "function"),none,(.func (fnO (topD 32) "is_lone_number" .none (.str "ledgerspeak.expressions" 445) (.ref 222))),#[]⟩),
 (229,⟨(.type "code"),none,(.fields #[(.str "read_power" 505),(.str "read_power" 506),(.str "/claim/cut.py" 507),(.int 164 0),(.int 2 0),(.int 0 0),(.int 0 0),(.int 3 0),(.ref 224),(.bool true),(.int 181 0),(.ref 225),.none,(.ref 226),(.ref 227),(.ref 228),(.int 511 0),(.int 164 0),(.str "/claim/cut.py" 512)]),#[]⟩),
 (230,⟨(.type "function"),none,(.func (fnO (topD 33) "read_power" .none (.str "ledgerspeak.expressions" 445) (.ref 229))),#[]⟩),
 (236,⟨(.type "code"),none,(.fields #[(.str "read_primary" 514),(.str "read_primary" 515),(.str "/claim/cut.py" 516),(.int 170 0),(.int 2 0),(.int 0 0),(.int 0 0),(.int 3 0),(.ref 231),(.bool true),(.int 181 0),(.ref 232),.none,(.ref 233),(.ref 234),(.ref 235),(.int 521 0),(.int 170 0),(.str "/claim/cut.py" 522)]),#[]⟩),
 (237,⟨(.type "function"),none,(.func (fnO (topD 34) "read_primary" .none (.str "ledgerspeak.expressions" 445) (.ref 236))),#[]⟩),
 (238,⟨(.type "dict"),none,(.dict #[⟨PyData.keyHash P "=",(.str "=" 528),(.str "<>" 529)⟩,⟨PyData.keyHash P "<>",(.str "<>" 530),(.str "=" 531)⟩,⟨PyData.keyHash P "<",(.str "<" 532),(.str ">=" 533)⟩,⟨PyData.keyHash P ">=",(.str ">=" 534),(.str "<" 535)⟩,⟨PyData.keyHash P ">",(.str ">" 536),(.str "<=" 537)⟩,⟨PyData.keyHash P "<=",(.str "<=" 538),(.str ">" 539)⟩] 6),#[]⟩),
 (239,⟨(.type "tuple"),none,(.seq #[(.str "NUMERIC" 547),(.str "ALPHABETIC" 548),(.str "ALPHABETIC-LOWER" 549),(.str "ALPHABETIC-UPPER" 550)] 0),#[]⟩),
 (240,⟨(.type "dict"),none,(.dict #[⟨PyData.keyHash P "POSITIVE",(.str "POSITIVE" 552),(.str "POSITIVE" 553)⟩,⟨PyData.keyHash P "NEGATIVE",(.str "NEGATIVE" 554),(.str "NEGATIVE" 555)⟩,⟨PyData.keyHash P "ZERO",(.str "ZERO" 556),(.str "ZERO" 557)⟩,⟨PyData.keyHash P "ZEROS",(.str "ZEROS" 558),(.str "ZERO" 559)⟩,⟨PyData.keyHash P "ZEROES",(.str "ZEROES" 560),(.str "ZERO" 561)⟩] 5),#[]⟩),
 (241,⟨(.type "dict"),none,(.dict #[⟨PyData.keyHash P "GREATER",(.str "GREATER" 568),(.str ">" 569)⟩,⟨PyData.keyHash P "LESS",(.str "LESS" 570),(.str "<" 571)⟩,⟨PyData.keyHash P "EQUAL",(.str "EQUAL" 572),(.str "=" 573)⟩] 3),#[]⟩),
 (242,⟨(.type "tuple"),none,(.seq #[(.str "=" 578),(.str "<" 579),(.str ">" 580),(.str "<=" 581),(.str ">=" 582)] 0),#[]⟩),
 (243,⟨(.type "tuple"),none,(.seq #[(.int 0 584)] 0),#[]⟩),
 (249,⟨(.type "code"),none,(.fields #[(.str "word_here" 585),(.str "word_here" 586),(.str "/claim/cut.py" 587),(.int 185 0),(.int 2 0),(.int 0 0),(.int 0 0),(.int 3 0),(.ref 244),(.bool true),(.int 181 0),(.ref 245),.none,(.ref 246),(.ref 247),(.ref 248),(.int 591 0),(.int 185 0),(.str "/claim/cut.py" 592)]),#[]⟩),
 (250,⟨(.type "function"),none,(.func (fnO (topD 42) "word_here" (.ref 243) (.str "ledgerspeak.conditions" 524) (.ref 249))),#[]⟩),
 (256,⟨(.type "code"),none,(.fields #[(.str "is_relation_at" 594),(.str "is_relation_at" 595),(.str "/claim/cut.py" 596),(.int 188 0),(.int 2 0),(.int 0 0),(.int 0 0),(.int 3 0),(.ref 251),(.bool true),(.int 181 0),(.ref 252),.none,(.ref 253),(.ref 254),(.ref 255),(.int 600 0),(.int 188 0),(.str "/claim/cut.py" 601)]),#[]⟩),
 (257,⟨(.type "function"),none,(.func (fnO (topD 43) "is_relation_at" .none (.str "ledgerspeak.conditions" 524) (.ref 256))),#[]⟩),
 (263,⟨(.type "code"),none,(.fields #[(.str "place_of_word" 603),(.str "place_of_word" 604),(.str "/claim/cut.py" 605),(.int 193 0),(.int 1 0),(.int 0 0),(.int 0 0),(.int 3 0),(.ref 258),(.bool true),(.int 181 0),(.ref 259),.none,(.ref 260),(.ref 261),(.ref 262),(.int 608 0),(.int 193 0),(.str "/claim/cut.py" 609)]),#[]⟩),
 (264,⟨(.type "function"),none,(.func (fnO (topD 44) "place_of_word" .none (.str "ledgerspeak.conditions" 524) (.ref 263))),#[]⟩),
 (270,⟨(.type "code"),none,(.fields #[(.str "is_predicate_here" 611),(.str "is_predicate_here" 612),(.str "/claim/cut.py" 613),(.int 196 0),(.int 1 0),(.int 0 0),(.int 0 0),(.int 3 0),(.ref 265),(.bool true),(.int 181 0),(.ref 266),.none,(.ref 267),(.ref 268),(.ref 269),(.int 617 0),(.int 196 0),(.str "/claim/cut.py" 618)]),#[]⟩),
 (271,⟨(.type "function"),none,(.func (fnO (topD 45) "is_predicate_here" .none (.str "ledgerspeak.conditions" 524) (.ref 270))),#[]⟩),
 (277,⟨(.type "code"),none,(.fields #[(.str "is_bare_relation_here" 620),(.str "is_bare_relation_here" 621),(.str "/claim/cut.py" 622),(.int 200 0),(.int 1 0),(.int 0 0),(.int 0 0),(.int 3 0),(.ref 272),(.bool true),(.int 181 0),(.ref 273),.none,(.ref 274),(.ref 275),(.ref 276),(.int 624 0),(.int 200 0),(.str "/claim/cut.py" 625)]),#[]⟩),
 (278,⟨(.type "function"),none,(.func (fnO (topD 46) "is_bare_relation_here" .none (.str "ledgerspeak.conditions" 524) (.ref 277))),#[]⟩),
 (291,⟨(.type "code"),none,(.fields #[(.str "__init__" 639),(.str "ConditionReader.__init__" 640),(.str "/claim/cut.py" 641),(.int 204 0),(.int 4 0),(.int 0 0),(.int 0 0),(.int 3 0),(.ref 286),(.bool true),(.int 181 0),(.ref 287),.none,(.ref 288),(.ref 289),(.ref 290),(.int 646 0),(.int 204 0),(.str "/claim/cut.py" 647)]),#[]⟩),
 (292,⟨(.type "function"),none,(.func (fnO (metD 47 0) "ConditionReader.__init__" .none (.str "ledgerspeak.conditions" 524) (.ref 291))),#[]⟩),
 (298,⟨(.type "code"),none,(.fields #[(.str "either" 649),(.str "ConditionReader.either" 650),(.str "/claim/cut.py" 651),(.int 210 0),(.int 1 0),(.int 0 0),(.int 0 0),(.int 3 0),(.ref 293),(.bool true),(.int 181 0),(.ref 294),.none,(.ref 295),(.ref 296),(.ref 297),(.int 654 0),(.int 210 0),(.str "/claim/cut.py" 655)]),#[]⟩),
 (299,⟨(.type "function"),none,(.func (fnO (metD 47 1) "ConditionReader.either" .none (.str "ledgerspeak.conditions" 524) (.ref 298))),#[]⟩),
 (305,⟨(.type "code"),none,(.fields #[(.str "both" 657),(.str "ConditionReader.both" 658),(.str "/claim/cut.py" 659),(.int 216 0),(.int 1 0),(.int 0 0),(.int 0 0),(.int 3 0),(.ref 300),(.bool true),(.int 181 0),(.ref 301),.none,(.ref 302),(.ref 303),(.ref 304),(.int 662 0),(.int 216 0),(.str "/claim/cut.py" 663)]),#[]⟩),
 (306,⟨(.type "function"),none,(.func (fnO (metD 47 2) "ConditionReader.both" .none (.str "ledgerspeak.conditions" 524) (.ref 305))),#[]⟩),
 (312,⟨(.type "code"),none,(.fields #[(.str "turned" 665),(.str "ConditionReader.turned" 666),(.str "/claim/cut.py" 667),(.int 222 0),(.int 1 0),(.int 0 0),(.int 0 0),(.int 3 0),(.ref 307),(.bool true),(.int 181 0),(.ref 308),.none,(.ref 309),(.ref 310),(.ref 311),(.int 669 0),(.int 222 0),(.str "/claim/cut.py" 670)]),#[]⟩),
 (313,⟨(.type "function"),none,(.func (fnO (metD 47 3) "ConditionReader.turned" .none (.str "ledgerspeak.conditions" 524) (.ref 312))),#[]⟩),
 (319,⟨(.type "code"),none,(.fields #[(.str "single" 672),(.str "ConditionReader.single" 673),(.str "/claim/cut.py" 674),(.int 228 0),(.int 1 0),(.int 0 0),(.int 0 0),(.int 3 0),(.ref 314),(.bool true),(.int 181 0),(.ref 315),.none,(.ref 316),(.ref 317),(.ref 318),(.int 680 0),(.int 228 0),(.str "/claim/cut.py" 681)]),#[]⟩),
 (320,⟨(.type "function"),none,(.func (fnO (metD 47 4) "ConditionReader.single" .none (.str "ledgerspeak.conditions" 524) (.ref 319))),#[]⟩),
 (326,⟨(.type "code"),none,(.fields #[(.str "unbracketed" 683),(.str "ConditionReader.unbracketed" 684),(.str "/claim/cut.py" 685),(.int 242 0),(.int 1 0),(.int 0 0),(.int 0 0),(.int 3 0),(.ref 321),(.bool true),(.int 181 0),(.ref 322),.none,(.ref 323),(.ref 324),(.ref 325),(.int 688 0),(.int 242 0),(.str "/claim/cut.py" 689)]),#[]⟩),
 (327,⟨(.type "function"),none,(.func (fnO (metD 47 5) "ConditionReader.unbracketed" .none (.str "ledgerspeak.conditions" 524) (.ref 326))),#[]⟩),
 (333,⟨(.type "code"),none,(.fields #[(.str "in_brackets" 691),(.str "ConditionReader.in_brackets" 692),(.str "/claim/cut.py" 693),(.int 253 0),(.int 1 0),(.int 0 0),(.int 0 0),(.int 3 0),(.ref 328),(.bool true),(.int 181 0),(.ref 329),.none,(.ref 330),(.ref 331),(.ref 332),(.int 696 0),(.int 253 0),(.str "/claim/cut.py" 697)]),#[]⟩),
 (334,⟨(.type "function"),none,(.func (fnO (metD 47 6) "ConditionReader.in_brackets" .none (.str "ledgerspeak.conditions" 524) (.ref 333))),#[]⟩),
 (340,⟨(.type "code"),none,(.fields #[(.str "subject_of_last" 699),(.str "ConditionReader.subject_of_last" 700),(.str "/claim/cut.py" 701),(.int 262 0),(.int 1 0),(.int 0 0),(.int 0 0),(.int 3 0),(.ref 335),(.bool true),(.int 181 0),(.ref 336),.none,(.ref 337),(.ref 338),(.ref 339),(.int 703 0),(.int 262 0),(.str "/claim/cut.py" 704)]),#[]⟩),
 (341,⟨(.type "function"),none,(.func (fnO (metD 47 7) "ConditionReader.subject_of_last" .none (.str "ledgerspeak.conditions" 524) (.ref 340))),#[]⟩),
 (347,⟨(.type "code"),none,(.fields #[(.str "sign_of_last" 706),(.str "ConditionReader.sign_of_last" 707),(.str "/claim/cut.py" 708),(.int 267 0),(.int 1 0),(.int 0 0),(.int 0 0),(.int 3 0),(.ref 342),(.bool true),(.int 181 0),(.ref 343),.none,(.ref 344),(.ref 345),(.ref 346),(.int 710 0),(.int 267 0),(.str "/claim/cut.py" 711)]),#[]⟩),
 (348,⟨(.type "function"),none,(.func (fnO (metD 47 8) "ConditionReader.sign_of_last" .none (.str "ledgerspeak.conditions" 524) (.ref 347))),#[]⟩),
 (354,⟨(.type "code"),none,(.fields #[(.str "predicate" 713),(.str "ConditionReader.predicate" 714),(.str "/claim/cut.py" 715),(.int 272 0),(.int 2 0),(.int 0 0),(.int 0 0),(.int 3 0),(.ref 349),(.bool true),(.int 181 0),(.ref 350),.none,(.ref 351),(.ref 352),(.ref 353),(.int 721 0),(.int 272 0),(.str "/claim/cut.py" 722)]),#[]⟩),
 (355,⟨(.type "function"),none,(.func (fnO (metD 47 9) "ConditionReader.predicate" .none (.str "ledgerspeak.conditions" 524) (.ref 354))),#[]⟩),
 (361,⟨(.type "code"),none,(.fields #[(.str "relation" 724),(.str "ConditionReader.relation" 725),(.str "/claim/cut.py" 726),(.int 286 0),(.int 2 0),(.int 0 0),(.int 0 0),(.int 3 0),(.ref 356),(.bool true),(.int 181 0),(.ref 357),.none,(.ref 358),(.ref 359),(.ref 360),(.int 731 0),(.int 286 0),(.str "/claim/cut.py" 732)]),#[]⟩),
 (362,⟨(.type "function"),none,(.func (fnO (metD 47 10) "ConditionReader.relation" .none (.str "ledgerspeak.conditions" 524) (.ref 361))),#[]⟩),
 (368,⟨(.type "code"),none,(.fields #[(.str "sign_here" 734),(.str "ConditionReader.sign_here" 735),(.str "/claim/cut.py" 736),(.int 293 0),(.int 1 0),(.int 0 0),(.int 0 0),(.int 3 0),(.ref 363),(.bool true),(.int 181 0),(.ref 364),.none,(.ref 365),(.ref 366),(.ref 367),(.int 740 0),(.int 293 0),(.str "/claim/cut.py" 741)]),#[]⟩),
 (369,⟨(.type "function"),none,(.func (fnO (metD 47 11) "ConditionReader.sign_here" .none (.str "ledgerspeak.conditions" 524) (.ref 368))),#[]⟩),
 (371,⟨(.type "dict"),none,(.dict #[⟨PyData.keyHash P "__module__",(.str "__module__" 634),(.str "ledgerspeak.conditions" 524)⟩,⟨PyData.keyHash P "__firstlineno__",(.str "__firstlineno__" 638),(.int 202 637)⟩,⟨PyData.keyHash P "__init__",(.str "__init__" 648),(.ref 292)⟩,⟨PyData.keyHash P "either",(.str "either" 656),(.ref 299)⟩,⟨PyData.keyHash P "both",(.str "both" 664),(.ref 306)⟩,⟨PyData.keyHash P "turned",(.str "turned" 671),(.ref 313)⟩,⟨PyData.keyHash P "single",(.str "single" 682),(.ref 320)⟩,⟨PyData.keyHash P "unbracketed",(.str "unbracketed" 690),(.ref 327)⟩,⟨PyData.keyHash P "in_brackets",(.str "in_brackets" 698),(.ref 334)⟩,⟨PyData.keyHash P "subject_of_last",(.str "subject_of_last" 705),(.ref 341)⟩,⟨PyData.keyHash P "sign_of_last",(.str "sign_of_last" 712),(.ref 348)⟩,⟨PyData.keyHash P "predicate",(.str "predicate" 723),(.ref 355)⟩,⟨PyData.keyHash P "relation",(.str "relation" 733),(.ref 362)⟩,⟨PyData.keyHash P "sign_here",(.str "sign_here" 742),(.ref 369)⟩,⟨PyData.keyHash P "__static_attributes__",(.str "__static_attributes__" 747),(.ref 370)⟩,⟨PyData.keyHash P "__dict__",(.str "__dict__" 749),(.ref 373)⟩,⟨PyData.keyHash P "__weakref__",(.str "__weakref__" 751),(.ref 374)⟩,⟨PyData.keyHash P "__doc__",(.str "__doc__" 752),.none⟩] 4),#[]⟩),
 (372,⟨(.type "type"),none,(.cls { name := "ConditionReader",bases:=[(.type "object")],mro:=[(.ref 372),(.type "object")],ns:=371,qualname := "ConditionReader",hasDict:=true,slotNames:=[],subclasses:=[],abstract:=false,collection:=none,hasDel:=false }),#[none,none,(some (.str "ConditionReader" 627)),(some (.str "ConditionReader" 635)),(some (.builtin "object.__new__")),(some (.bool true))]⟩),
 (373,⟨(.type "getset_descriptor"),none,(.fields #[(.str "__dict__" 748),(.ref 372),(.builtin "function.__dict__"),(.builtin "function.__dict__#set")]),#[]⟩),
 (374,⟨(.type "getset_descriptor"),none,(.fields #[(.str "__weakref__" 750),(.ref 372),(.builtin "ExceptionGroup.__weakref__"),.none]),#[]⟩),
 (377,⟨(.type "tuple"),none,(.seq #[.none] 0),#[]⟩),
 (383,⟨(.type "code"),none,(.fields #[(.str "read_condition" 755),(.str "read_condition" 756),(.str "/claim/cut.py" 757),(.int 305 0),(.int 2 0),(.int 0 0),(.int 0 0),(.int 3 0),(.ref 378),(.bool true),(.int 181 0),(.ref 379),.none,(.ref 380),(.ref 381),(.ref 382),(.int 761 0),(.int 305 0),(.str "/claim/cut.py" 762)]),#[]⟩),
 (384,⟨(.type "function"),none,(.func (fnO (topD 48) "read_condition" (.ref 377) (.str "ledgerspeak.conditions" 524) (.ref 383))),#[]⟩),
 (390,⟨(.type "code"),none,(.fields #[(.str "body_here" 766),(.str "body_here" 767),(.str "/claim/cut.py" 768),(.int 310 0),(.int 2 0),(.int 0 0),(.int 0 0),(.int 3 0),(.ref 385),(.bool true),(.int 181 0),(.ref 386),.none,(.ref 387),(.ref 388),(.ref 389),(.int 772 0),(.int 310 0),(.str "/claim/cut.py" 773)]),#[]⟩),
 (391,⟨(.type "function"),none,(.func (fnO (topD 50) "body_here" .none (.str "ledgerspeak.readarith" 764) (.ref 390))),#[]⟩),
 (397,⟨(.type "code"),none,(.fields #[(.str "name_pair" 777),(.str "name_pair" 778),(.str "/claim/cut.py" 779),(.int 316 0),(.int 1 0),(.int 0 0),(.int 0 0),(.int 3 0),(.ref 392),(.bool true),(.int 181 0),(.ref 393),.none,(.ref 394),(.ref 395),(.ref 396),(.int 782 0),(.int 316 0),(.str "/claim/cut.py" 783)]),#[]⟩),
 (398,⟨(.type "function"),none,(.func (fnO (topD 52) "name_pair" .none (.str "ledgerspeak.readflow" 775) (.ref 397))),#[]⟩),
 (404,⟨(.type "code"),none,(.fields #[(.str "read_if" 785),(.str "read_if" 786),(.str "/claim/cut.py" 787),(.int 321 0),(.int 2 0),(.int 0 0),(.int 0 0),(.int 3 0),(.ref 399),(.bool true),(.int 181 0),(.ref 400),.none,(.ref 401),(.ref 402),(.ref 403),(.int 793 0),(.int 321 0),(.str "/claim/cut.py" 794)]),#[]⟩),
 (405,⟨(.type "function"),none,(.func (fnO (topD 53) "read_if" .none (.str "ledgerspeak.readflow" 775) (.ref 404))),#[]⟩),
 (411,⟨(.type "code"),none,(.fields #[(.str "read_goto" 796),(.str "read_goto" 797),(.str "/claim/cut.py" 798),(.int 329 0),(.int 2 0),(.int 0 0),(.int 0 0),(.int 3 0),(.ref 406),(.bool true),(.int 181 0),(.ref 407),.none,(.ref 408),(.ref 409),(.ref 410),(.int 802 0),(.int 329 0),(.str "/claim/cut.py" 803)]),#[]⟩),
 (412,⟨(.type "function"),none,(.func (fnO (topD 54) "read_goto" .none (.str "ledgerspeak.readflow" 775) (.ref 411))),#[]⟩),
 (418,⟨(.type "code"),none,(.fields #[(.str "read_exit" 805),(.str "read_exit" 806),(.str "/claim/cut.py" 807),(.int 341 0),(.int 2 0),(.int 0 0),(.int 0 0),(.int 3 0),(.ref 413),(.bool true),(.int 181 0),(.ref 414),.none,(.ref 415),(.ref 416),(.ref 417),(.int 810 0),(.int 341 0),(.str "/claim/cut.py" 811)]),#[]⟩),
 (419,⟨(.type "function"),none,(.func (fnO (topD 55) "read_exit" .none (.str "ledgerspeak.readflow" 775) (.ref 418))),#[]⟩),
 (425,⟨(.type "code"),none,(.fields #[(.str "read_stop" 813),(.str "read_stop" 814),(.str "/claim/cut.py" 815),(.int 344 0),(.int 2 0),(.int 0 0),(.int 0 0),(.int 3 0),(.ref 420),(.bool true),(.int 181 0),(.ref 421),.none,(.ref 422),(.ref 423),(.ref 424),(.int 818 0),(.int 344 0),(.str "/claim/cut.py" 819)]),#[]⟩),
 (426,⟨(.type "function"),none,(.func (fnO (topD 56) "read_stop" .none (.str "ledgerspeak.readflow" 775) (.ref 425))),#[]⟩),
 (433,⟨(.type "frame"),none,.plain,#[(some (.ref 432)),(some (.ref 3)),(some (.ref 429)),none,(some (.str "ledgerspeak.tokens" 821)),none,(some (.ref 0))]⟩),
 (434,⟨(.type "tuple"),none,(.seq #[(.int 0 835),(.int 0 836)] 0),#[]⟩),
 (435,⟨(.type "tuple"),none,(.seq #[(.ref 434),(.bool false)] 0),#[]⟩),
 (441,⟨(.type "code"),none,(.fields #[(.str "__init__" 837),(.str "Token.__init__" 838),(.str "/claim/cut.py" 839),(.int 351 0),(.int 5 0),(.int 0 0),(.int 0 0),(.int 3 0),(.ref 436),(.bool true),(.int 181 0),(.ref 437),.none,(.ref 438),(.ref 439),(.ref 440),(.int 845 0),(.int 351 0),(.str "/claim/cut.py" 846)]),#[]⟩),
 (442,⟨(.type "function"),none,(.func (fnO (metD 58 0) "Token.__init__" (.ref 435) (.str "ledgerspeak.tokens" 821) (.ref 441))),#[]⟩),
 (451,⟨(.type "dict"),none,(.dict #[⟨PyData.keyHash P "__module__",(.str "__module__" 830),(.str "ledgerspeak.tokens" 821)⟩,⟨PyData.keyHash P "__firstlineno__",(.str "__firstlineno__" 834),(.int 349 833)⟩,⟨PyData.keyHash P "__init__",(.str "__init__" 847),(.ref 442)⟩,⟨PyData.keyHash P "told",(.str "told" 854),(.ref 449)⟩,⟨PyData.keyHash P "__static_attributes__",(.str "__static_attributes__" 859),(.ref 450)⟩,⟨PyData.keyHash P "__dict__",(.str "__dict__" 861),(.ref 453)⟩,⟨PyData.keyHash P "__weakref__",(.str "__weakref__" 863),(.ref 454)⟩,⟨PyData.keyHash P "__doc__",(.str "__doc__" 864),.none⟩] 4),#[]⟩),
 (452,⟨(.type "type"),none,(.cls { name := "Token",bases:=[(.type "object")],mro:=[(.ref 452),(.type "object")],ns:=451,qualname := "Token",hasDict:=true,slotNames:=[],subclasses:=[],abstract:=false,collection:=none,hasDel:=false }),#[none,none,(some (.str "Token" 823)),(some (.str "Token" 831)),(some (.builtin "object.__new__")),(some (.bool true))]⟩),
 (453,⟨(.type "getset_descriptor"),none,(.fields #[(.str "__dict__" 860),(.ref 452),(.builtin "function.__dict__"),(.builtin "function.__dict__#set")]),#[]⟩),
 (454,⟨(.type "getset_descriptor"),none,(.fields #[(.str "__weakref__" 862),(.ref 452),(.builtin "ExceptionGroup.__weakref__"),.none]),#[]⟩),
 (462,⟨(.type "code"),none,(.fields #[(.str "is_reserved" 873),(.str "is_reserved" 874),(.str "/claim/cut.py" 875),(.int 362 0),(.int 1 0),(.int 0 0),(.int 0 0),(.int 3 0),(.ref 457),(.bool true),(.int 181 0),(.ref 458),.none,(.ref 459),(.ref 460),(.ref 461),(.int 877 0),(.int 362 0),(.str "/claim/cut.py" 878)]),#[]⟩),
 (463,⟨(.type "function"),none,(.func (fnO (topD 62) "is_reserved" .none (.str "ledgerspeak.reader" 867) (.ref 462))),#[]⟩),
 (476,⟨(.type "tuple"),none,(.seq #[(.int 0 898)] 0),#[]⟩),
 (482,⟨(.type "code"),none,(.fields #[(.str "__init__" 899),(.str "Reader.__init__" 900),(.str "/claim/cut.py" 901),(.int 371 0),(.int 3 0),(.int 0 0),(.int 0 0),(.int 3 0),(.ref 477),(.bool true),(.int 181 0),(.ref 478),.none,(.ref 479),(.ref 480),(.ref 481),(.int 905 0),(.int 371 0),(.str "/claim/cut.py" 906)]),#[]⟩),
 (483,⟨(.type "function"),none,(.func (fnO (metD 64 0) "Reader.__init__" (.ref 476) (.str "ledgerspeak.reader" 867) (.ref 482))),#[]⟩),
 (484,⟨(.type "tuple"),none,(.seq #[(.int 0 908)] 0),#[]⟩),
 (490,⟨(.type "code"),none,(.fields #[(.str "peek" 909),(.str "Reader.peek" 910),(.str "/claim/cut.py" 911),(.int 376 0),(.int 2 0),(.int 0 0),(.int 0 0),(.int 3 0),(.ref 485),(.bool true),(.int 181 0),(.ref 486),.none,(.ref 487),(.ref 488),(.ref 489),(.int 914 0),(.int 376 0),(.str "/claim/cut.py" 915)]),#[]⟩),
 (491,⟨(.type "function"),none,(.func (fnO (metD 64 1) "Reader.peek" (.ref 484) (.str "ledgerspeak.reader" 867) (.ref 490))),#[]⟩),
 (504,⟨(.type "code"),none,(.fields #[(.str "fault" 924),(.str "Reader.fault" 925),(.str "/claim/cut.py" 926),(.int 384 0),(.int 2 0),(.int 0 0),(.int 0 0),(.int 3 0),(.ref 499),(.bool true),(.int 181 0),(.ref 500),.none,(.ref 501),(.ref 502),(.ref 503),(.int 929 0),(.int 384 0),(.str "/claim/cut.py" 930)]),#[]⟩),
 (505,⟨(.type "function"),none,(.func (fnO (metD 64 3) "Reader.fault" .none (.str "ledgerspeak.reader" 867) (.ref 504))),#[]⟩),
 (511,⟨(.type "code"),none,(.fields #[(.str "take" 932),(.str "Reader.take" 933),(.str "/claim/cut.py" 934),(.int 389 0),(.int 1 0),(.int 0 0),(.int 0 0),(.int 3 0),(.ref 506),(.bool true),(.int 181 0),(.ref 507),.none,(.ref 508),(.ref 509),(.ref 510),(.int 937 0),(.int 389 0),(.str "/claim/cut.py" 938)]),#[]⟩),
 (512,⟨(.type "function"),none,(.func (fnO (metD 64 4) "Reader.take" .none (.str "ledgerspeak.reader" 867) (.ref 511))),#[]⟩),
 (513,⟨(.type "tuple"),none,(.seq #[(.int 0 940)] 0),#[]⟩),
 (519,⟨(.type "code"),none,(.fields #[(.str "is_kind" 941),(.str "Reader.is_kind" 942),(.str "/claim/cut.py" 943),(.int 396 0),(.int 3 0),(.int 0 0),(.int 0 0),(.int 3 0),(.ref 514),(.bool true),(.int 181 0),(.ref 515),.none,(.ref 516),(.ref 517),(.ref 518),(.int 948 0),(.int 396 0),(.str "/claim/cut.py" 949)]),#[]⟩),
 (520,⟨(.type "function"),none,(.func (fnO (metD 64 5) "Reader.is_kind" (.ref 513) (.str "ledgerspeak.reader" 867) (.ref 519))),#[]⟩),
 (526,⟨(.type "code"),none,(.fields #[(.str "is_word" 951),(.str "Reader.is_word" 952),(.str "/claim/cut.py" 953),(.int 400 0),(.int 2 0),(.int 0 0),(.int 0 0),(.int 3 0),(.ref 521),(.bool true),(.int 181 0),(.ref 522),.none,(.ref 523),(.ref 524),(.ref 525),(.int 958 0),(.int 400 0),(.str "/claim/cut.py" 959)]),#[]⟩),
 (527,⟨(.type "function"),none,(.func (fnO (metD 64 6) "Reader.is_word" .none (.str "ledgerspeak.reader" 867) (.ref 526))),#[]⟩),
 (533,⟨(.type "code"),none,(.fields #[(.str "skip" 961),(.str "Reader.skip" 962),(.str "/claim/cut.py" 963),(.int 408 0),(.int 2 0),(.int 0 0),(.int 0 0),(.int 3 0),(.ref 528),(.bool true),(.int 181 0),(.ref 529),.none,(.ref 530),(.ref 531),(.ref 532),(.int 966 0),(.int 408 0),(.str "/claim/cut.py" 967)]),#[]⟩),
 (534,⟨(.type "function"),none,(.func (fnO (metD 64 7) "Reader.skip" .none (.str "ledgerspeak.reader" 867) (.ref 533))),#[]⟩),
 (540,⟨(.type "code"),none,(.fields #[(.str "need" 969),(.str "Reader.need" 970),(.str "/claim/cut.py" 971),(.int 414 0),(.int 2 0),(.int 0 0),(.int 0 0),(.int 3 0),(.ref 535),(.bool true),(.int 181 0),(.ref 536),.none,(.ref 537),(.ref 538),(.ref 539),(.int 974 0),(.int 414 0),(.str "/claim/cut.py" 975)]),#[]⟩),
 (541,⟨(.type "function"),none,(.func (fnO (metD 64 8) "Reader.need" .none (.str "ledgerspeak.reader" 867) (.ref 540))),#[]⟩),
 (547,⟨(.type "code"),none,(.fields #[(.str "one_of" 977),(.str "Reader.one_of" 978),(.str "/claim/cut.py" 979),(.int 418 0),(.int 2 0),(.int 0 0),(.int 0 0),(.int 3 0),(.ref 542),(.bool true),(.int 181 0),(.ref 543),.none,(.ref 544),(.ref 545),(.ref 546),(.int 983 0),(.int 418 0),(.str "/claim/cut.py" 984)]),#[]⟩),
 (548,⟨(.type "function"),none,(.func (fnO (metD 64 9) "Reader.one_of" .none (.str "ledgerspeak.reader" 867) (.ref 547))),#[]⟩),
 (556,⟨(.type "tuple"),none,(.seq #[(.int 0 993)] 0),#[]⟩),
 (562,⟨(.type "code"),none,(.fields #[(.str "is_name" 994),(.str "Reader.is_name" 995),(.str "/claim/cut.py" 996),(.int 429 0),(.int 2 0),(.int 0 0),(.int 0 0),(.int 3 0),(.ref 557),(.bool true),(.int 181 0),(.ref 558),.none,(.ref 559),(.ref 560),(.ref 561),(.int 999 0),(.int 429 0),(.str "/claim/cut.py" 1000)]),#[]⟩),
 (563,⟨(.type "function"),none,(.func (fnO (metD 64 11) "Reader.is_name" (.ref 556) (.str "ledgerspeak.reader" 867) (.ref 562))),#[]⟩),
 (569,⟨(.type "code"),none,(.fields #[(.str "name" 1002),(.str "Reader.name" 1003),(.str "/claim/cut.py" 1004),(.int 432 0),(.int 1 0),(.int 0 0),(.int 0 0),(.int 3 0),(.ref 564),(.bool true),(.int 181 0),(.ref 565),.none,(.ref 566),(.ref 567),(.ref 568),(.int 1006 0),(.int 432 0),(.str "/claim/cut.py" 1007)]),#[]⟩),
 (570,⟨(.type "function"),none,(.func (fnO (metD 64 12) "Reader.name" .none (.str "ledgerspeak.reader" 867) (.ref 569))),#[]⟩),
 (578,⟨(.type "tuple"),none,(.seq #[(.int 0 1017)] 0),#[]⟩),
 (584,⟨(.type "code"),none,(.fields #[(.str "is_sign" 1018),(.str "Reader.is_sign" 1019),(.str "/claim/cut.py" 1020),(.int 443 0),(.int 3 0),(.int 0 0),(.int 0 0),(.int 3 0),(.ref 579),(.bool true),(.int 181 0),(.ref 580),.none,(.ref 581),(.ref 582),(.ref 583),(.int 1024 0),(.int 443 0),(.str "/claim/cut.py" 1025)]),#[]⟩),
 (585,⟨(.type "function"),none,(.func (fnO (metD 64 14) "Reader.is_sign" (.ref 578) (.str "ledgerspeak.reader" 867) (.ref 584))),#[]⟩),
 (591,⟨(.type "code"),none,(.fields #[(.str "skip_sign" 1027),(.str "Reader.skip_sign" 1028),(.str "/claim/cut.py" 1029),(.int 446 0),(.int 2 0),(.int 0 0),(.int 0 0),(.int 3 0),(.ref 586),(.bool true),(.int 181 0),(.ref 587),.none,(.ref 588),(.ref 589),(.ref 590),(.int 1032 0),(.int 446 0),(.str "/claim/cut.py" 1033)]),#[]⟩),
 (592,⟨(.type "function"),none,(.func (fnO (metD 64 15) "Reader.skip_sign" .none (.str "ledgerspeak.reader" 867) (.ref 591))),#[]⟩),
 (598,⟨(.type "code"),none,(.fields #[(.str "need_sign" 1035),(.str "Reader.need_sign" 1036),(.str "/claim/cut.py" 1037),(.int 452 0),(.int 2 0),(.int 0 0),(.int 0 0),(.int 3 0),(.ref 593),(.bool true),(.int 181 0),(.ref 594),.none,(.ref 595),(.ref 596),(.ref 597),(.int 1040 0),(.int 452 0),(.str "/claim/cut.py" 1041)]),#[]⟩),
 (599,⟨(.type "function"),none,(.func (fnO (metD 64 16) "Reader.need_sign" .none (.str "ledgerspeak.reader" 867) (.ref 598))),#[]⟩),
 (605,⟨(.type "code"),none,(.fields #[(.str "is_number" 1043),(.str "Reader.is_number" 1044),(.str "/claim/cut.py" 1045),(.int 456 0),(.int 1 0),(.int 0 0),(.int 0 0),(.int 3 0),(.ref 600),(.bool true),(.int 181 0),(.ref 601),.none,(.ref 602),(.ref 603),(.ref 604),(.int 1047 0),(.int 456 0),(.str "/claim/cut.py" 1048)]),#[]⟩),
 (606,⟨(.type "function"),none,(.func (fnO (metD 64 17) "Reader.is_number" .none (.str "ledgerspeak.reader" 867) (.ref 605))),#[]⟩),
 (612,⟨(.type "code"),none,(.fields #[(.str "signed" 1050),(.str "Reader.signed" 1051),(.str "/claim/cut.py" 1052),(.int 461 0),(.int 1 0),(.int 0 0),(.int 0 0),(.int 3 0),(.ref 607),(.bool true),(.int 181 0),(.ref 608),.none,(.ref 609),(.ref 610),(.ref 611),(.int 1056 0),(.int 461 0),(.str "/claim/cut.py" 1057)]),#[]⟩),
 (613,⟨(.type "function"),none,(.func (fnO (metD 64 18) "Reader.signed" .none (.str "ledgerspeak.reader" 867) (.ref 612))),#[]⟩),
 (636,⟨(.type "dict"),none,(.dict #[⟨PyData.keyHash P "__module__",(.str "__module__" 893),(.str "ledgerspeak.reader" 867)⟩,⟨PyData.keyHash P "__firstlineno__",(.str "__firstlineno__" 897),(.int 369 896)⟩,⟨PyData.keyHash P "__init__",(.str "__init__" 907),(.ref 483)⟩,⟨PyData.keyHash P "peek",(.str "peek" 916),(.ref 491)⟩,⟨PyData.keyHash P "is_done",(.str "is_done" 923),(.ref 498)⟩,⟨PyData.keyHash P "fault",(.str "fault" 931),(.ref 505)⟩,⟨PyData.keyHash P "take",(.str "take" 939),(.ref 512)⟩,⟨PyData.keyHash P "is_kind",(.str "is_kind" 950),(.ref 520)⟩,⟨PyData.keyHash P "is_word",(.str "is_word" 960),(.ref 527)⟩,⟨PyData.keyHash P "skip",(.str "skip" 968),(.ref 534)⟩,⟨PyData.keyHash P "need",(.str "need" 976),(.ref 541)⟩,⟨PyData.keyHash P "one_of",(.str "one_of" 985),(.ref 548)⟩,⟨PyData.keyHash P "word",(.str "word" 992),(.ref 555)⟩,⟨PyData.keyHash P "is_name",(.str "is_name" 1001),(.ref 563)⟩,⟨PyData.keyHash P "name",(.str "name" 1008),(.ref 570)⟩,⟨PyData.keyHash P "names",(.str "names" 1016),(.ref 577)⟩,⟨PyData.keyHash P "is_sign",(.str "is_sign" 1026),(.ref 585)⟩,⟨PyData.keyHash P "skip_sign",(.str "skip_sign" 1034),(.ref 592)⟩,⟨PyData.keyHash P "need_sign",(.str "need_sign" 1042),(.ref 599)⟩,⟨PyData.keyHash P "is_number",(.str "is_number" 1049),(.ref 606)⟩,⟨PyData.keyHash P "signed",(.str "signed" 1058),(.ref 613)⟩,⟨PyData.keyHash P "whole",(.str "whole" 1066),(.ref 620)⟩,⟨PyData.keyHash P "literal",(.str "literal" 1073),(.ref 627)⟩,⟨PyData.keyHash P "octets",(.str "octets" 1081),(.ref 634)⟩,⟨PyData.keyHash P "__static_attributes__",(.str "__static_attributes__" 1085),(.ref 635)⟩,⟨PyData.keyHash P "__dict__",(.str "__dict__" 1087),(.ref 638)⟩,⟨PyData.keyHash P "__weakref__",(.str "__weakref__" 1089),(.ref 639)⟩,⟨PyData.keyHash P "__doc__",(.str "__doc__" 1090),.none⟩] 4),#[]⟩),
 (637,⟨(.type "type"),none,(.cls { name := "Reader",bases:=[(.type "object")],mro:=[(.ref 637),(.type "object")],ns:=636,qualname := "Reader",hasDict:=true,slotNames:=[],subclasses:=[],abstract:=false,collection:=none,hasDel:=false }),#[none,none,(some (.str "Reader" 886)),(some (.str "Reader" 894)),(some (.builtin "object.__new__")),(some (.bool true))]⟩),
 (638,⟨(.type "getset_descriptor"),none,(.fields #[(.str "__dict__" 1086),(.ref 637),(.builtin "function.__dict__"),(.builtin "function.__dict__#set")]),#[]⟩),
 (639,⟨(.type "getset_descriptor"),none,(.fields #[(.str "__weakref__" 1088),(.ref 637),(.builtin "ExceptionGroup.__weakref__"),.none]),#[]⟩),
 (647,⟨(.type "code"),none,(.fields #[(.str "_law_draw" 1095),(.str "_law_draw" 1096),(.str "/claim/cut.py" 1097),(.int 493 0),(.int 2 0),(.int 0 0),(.int 0 0),(.int 3 0),(.ref 642),(.bool true),(.int 181 0),(.ref 643),.none,(.ref 644),(.ref 645),(.ref 646),(.int 1102 0),(.int 493 0),(.str "/claim/cut.py" 1103)]),#[]⟩),
 (648,⟨(.type "function"),none,(.func (fnO (topD 66) "_law_draw" .none (.str "law_pc0148_01" 1093) (.ref 647))),#[]⟩),
 (652,⟨(.type "code"),none,(.fields #[(.str "_law_source" 1105),(.str "_law_source" 1106),(.str "/claim/cut.py" 1107),(.int 498 0),(.int 1 0),(.int 0 0),(.int 0 0),(.int 3 0),(.ref 649),(.bool true),(.int 181 0),(.ref 650),.none,.none,.none,(.ref 651),(.int 1108 0),(.int 498 0),(.str "/claim/cut.py" 1109)]),#[]⟩),
 (653,⟨(.type "function"),none,(.func (fnO (topD 67) "_law_source" .none (.str "law_pc0148_01" 1093) (.ref 652))),#[]⟩),
 (654,⟨(.type "tuple"),none,(.seq #[] 0),#[]⟩),
 (655,⟨(.type "tuple"),none,(.seq #[] 0),#[]⟩),
 (656,⟨(.type "tuple"),none,(.seq #[(.str "ref" 1111),(.str "A" 1112),(.ref 654),(.ref 655),.none] 0),#[]⟩),
 (657,⟨(.type "tuple"),none,(.seq #[(.str "C" 1116)] 0),#[]⟩),
 (658,⟨(.type "tuple"),none,(.seq #[] 0),#[]⟩),
 (659,⟨(.type "tuple"),none,(.seq #[(.str "ref" 1114),(.str "B" 1115),(.ref 657),(.ref 658),.none] 0),#[]⟩),
 (660,⟨(.type "tuple"),none,(.seq #[] 0),#[]⟩),
 (661,⟨(.type "tuple"),none,(.seq #[(.int 2 1121),(.int 0 1122)] 0),#[]⟩),
 (662,⟨(.type "tuple"),none,(.seq #[(.str "number" 1120),(.ref 661)] 0),#[]⟩),
 (663,⟨(.type "tuple"),none,(.seq #[(.ref 662)] 0),#[]⟩),
 (664,⟨(.type "tuple"),none,(.seq #[(.str "ref" 1118),(.str "T" 1119),(.ref 660),(.ref 663),.none] 0),#[]⟩),
 (665,⟨(.type "tuple"),none,(.seq #[(.int 1 1125),(.int 0 1126)] 0),#[]⟩),
 (666,⟨(.type "tuple"),none,(.seq #[(.str "number" 1124),(.ref 665)] 0),#[]⟩),
 (672,⟨(.type "code"),none,(.fields #[(.str "_law_REFS" 1128),(.str "_law_REFS" 1129),(.str "/claim/cut.py" 1130),(.int 505 0),(.int 0 0),(.int 0 0),(.int 0 0),(.int 3 0),(.ref 667),(.bool true),(.int 181 0),(.ref 668),.none,(.ref 669),(.ref 670),(.ref 671),(.int 1131 0),(.int 505 0),(.str "/claim/cut.py" 1132)]),#[]⟩),
 (673,⟨(.type "function"),none,(.func (fnO (topD 72) "_law_REFS" .none (.str "law_pc0148_01" 1093) (.ref 672))),#[]⟩),
 (679,⟨(.type "code"),none,(.fields #[(.str "_law_CONDS" 1134),(.str "_law_CONDS" 1135),(.str "/claim/cut.py" 1136),(.int 507 0),(.int 0 0),(.int 0 0),(.int 0 0),(.int 3 0),(.ref 674),(.bool true),(.int 181 0),(.ref 675),.none,(.ref 676),(.ref 677),(.ref 678),(.int 1137 0),(.int 507 0),(.str "/claim/cut.py" 1138)]),#[]⟩),
 (680,⟨(.type "function"),none,(.func (fnO (topD 73) "_law_CONDS" .none (.str "law_pc0148_01" 1093) (.ref 679))),#[]⟩),
 (686,⟨(.type "code"),none,(.fields #[(.str "_law_pick" 1140),(.str "_law_pick" 1141),(.str "/claim/cut.py" 1142),(.int 509 0),(.int 2 0),(.int 0 0),(.int 0 0),(.int 3 0),(.ref 681),(.bool true),(.int 181 0),(.ref 682),.none,(.ref 683),(.ref 684),(.ref 685),(.int 1145 0),(.int 509 0),(.str "/claim/cut.py" 1146)]),#[]⟩),
 (687,⟨(.type "function"),none,(.func (fnO (topD 74) "_law_pick" .none (.str "law_pc0148_01" 1093) (.ref 686))),#[]⟩),
 (693,⟨(.type "code"),none,(.fields #[(.str "_law_tokens" 1148),(.str "_law_tokens" 1149),(.str "/claim/cut.py" 1150),(.int 511 0),(.int 1 0),(.int 0 0),(.int 0 0),(.int 3 0),(.ref 688),(.bool true),(.int 181 0),(.ref 689),.none,(.ref 690),(.ref 691),(.ref 692),(.int 1155 0),(.int 511 0),(.str "/claim/cut.py" 1156)]),#[]⟩),
 (694,⟨(.type "function"),none,(.func (fnO (topD 75) "_law_tokens" .none (.str "law_pc0148_01" 1093) (.ref 693))),#[]⟩),
 (707,⟨(.type "code"),none,(.fields #[(.str "_law_heard" 1166),(.str "_law_heard" 1167),(.str "/claim/cut.py" 1168),(.int 523 0),(.int 2 0),(.int 0 0),(.int 0 0),(.int 3 0),(.ref 702),(.bool true),(.int 181 0),(.ref 703),.none,(.ref 704),(.ref 705),(.ref 706),(.int 1173 0),(.int 523 0),(.str "/claim/cut.py" 1174)]),#[]⟩),
 (708,⟨(.type "function"),none,(.func (fnO (topD 77) "_law_heard" .none (.str "law_pc0148_01" 1093) (.ref 707))),#[]⟩),
 (714,⟨(.type "code"),none,(.fields #[(.str "_law_small" 1176),(.str "_law_small" 1177),(.str "/claim/cut.py" 1178),(.int 530 0),(.int 1 0),(.int 0 0),(.int 0 0),(.int 3 0),(.ref 709),(.bool true),(.int 181 0),(.ref 710),.none,(.ref 711),(.ref 712),(.ref 713),(.int 1183 0),(.int 530 0),(.str "/claim/cut.py" 1184)]),#[]⟩),
 (715,⟨(.type "function"),none,(.func (fnO (topD 78) "_law_small" .none (.str "law_pc0148_01" 1093) (.ref 714))),#[]⟩),
 (721,⟨(.type "code"),none,(.fields #[(.str "_law_read" 1186),(.str "_law_read" 1187),(.str "/claim/cut.py" 1188),(.int 540 0),(.int 2 0),(.int 0 0),(.int 0 0),(.int 3 0),(.ref 716),(.bool true),(.int 181 0),(.ref 717),.none,(.ref 718),(.ref 719),(.ref 720),(.int 1191 0),(.int 540 0),(.str "/claim/cut.py" 1192)]),#[]⟩),
 (722,⟨(.type "function"),none,(.func (fnO (topD 79) "_law_read" .none (.str "law_pc0148_01" 1093) (.ref 721))),#[]⟩),
 (728,⟨(.type "code"),none,(.fields #[(.str "_law_statements" 1194),(.str "_law_statements" 1195),(.str "/claim/cut.py" 1196),(.int 542 0),(.int 1 0),(.int 0 0),(.int 0 0),(.int 3 0),(.ref 723),(.bool true),(.int 181 0),(.ref 724),.none,(.ref 725),(.ref 726),(.ref 727),(.int 1199 0),(.int 542 0),(.str "/claim/cut.py" 1200)]),#[]⟩),
 (729,⟨(.type "function"),none,(.func (fnO (topD 80) "_law_statements" .none (.str "law_pc0148_01" 1093) (.ref 728))),#[]⟩),
 (735,⟨(.type "code"),none,(.fields #[(.str "_law_body_words" 1202),(.str "_law_body_words" 1203),(.str "/claim/cut.py" 1204),(.int 555 0),(.int 2 0),(.int 0 0),(.int 0 0),(.int 3 0),(.ref 730),(.bool true),(.int 181 0),(.ref 731),.none,(.ref 732),(.ref 733),(.ref 734),(.int 1213 0),(.int 555 0),(.str "/claim/cut.py" 1214)]),#[]⟩),
 (736,⟨(.type "function"),none,(.func (fnO (topD 81) "_law_body_words" .none (.str "law_pc0148_01" 1093) (.ref 735))),#[]⟩),
 (742,⟨(.type "code"),none,(.fields #[(.str "_law_if_words" 1216),(.str "_law_if_words" 1217),(.str "/claim/cut.py" 1218),(.int 568 0),(.int 2 0),(.int 0 0),(.int 0 0),(.int 3 0),(.ref 737),(.bool true),(.int 181 0),(.ref 738),.none,(.ref 739),(.ref 740),(.ref 741),(.int 1228 0),(.int 568 0),(.str "/claim/cut.py" 1229)]),#[]⟩),
 (743,⟨(.type "function"),none,(.func (fnO (topD 82) "_law_if_words" .none (.str "law_pc0148_01" 1093) (.ref 742))),#[]⟩),
 (747,⟨(.type "code"),none,(.fields #[(.str "law" 1231),(.str "law" 1232),(.str "/claim/cut.py" 1233),(.int 580 0),(.int 1 0),(.int 0 0),(.int 0 0),(.int 3 0),(.ref 744),(.bool true),(.int 181 0),(.ref 745),.none,.none,.none,(.ref 746),(.int 1234 0),(.int 580 0),(.str "/claim/cut.py" 1235)]),#[]⟩),
 (748,⟨(.type "function"),none,(.func (fnO (topD 83) "law" .none (.str "law_pc0148_01" 1093) (.ref 747))),#[]⟩)]
noncomputable def keysF:List Addr:=[3,22,28,29,35,36,49,50,63,64,70,71,79,80,86,87,93,94,96,97,98,101,113,121,122,132,138,139,173,174,180,181,187,188,194,195,201,202,208,209,215,216,222,223,229,230,236,237,238,239,240,241,242,243,249,250,256,257,263,264,270,271,277,278,291,292,298,299,305,306,312,313,319,320,326,327,333,334,340,341,347,348,354,355,361,362,368,369,371,372,373,374,377,383,384,390,391,397,398,404,405,411,412,418,419,425,426,433,434,435,441,442,451,452,453,454,462,463,476,482,483,484,490,491,504,505,511,512,513,519,520,526,527,533,534,540,541,547,548,556,562,563,569,570,578,584,585,591,592,598,599,605,606,612,613,636,637,638,639,647,648,652,653,654,655,656,657,658,659,660,661,662,663,664,665,666,672,673,679,680,686,687,693,694,707,708,714,715,721,722,728,729,735,736,742,743,747,748]
noncomputable def tabsF:List Addr:=[232,379,745]
noncomputable def obsF (s:Shared):List (Option Obj) × List (Option Obj):=(keysF.map s.heap.get?,tabsF.map s.heap.get?)
noncomputable def valF (w:World):List (Option Obj) × List (Option Obj):=((KF w.params).map λ p=>some p.2,tabsF.map λ _=>some (tabObj #[]))
noncomputable def checksQ (p:Program) (P:Params) (h:Heap) (s:Shared):Bool:=staticsOk (importedModules p.main.body) (boot_heap P) h && namesBound p h && gensDone s && laidKept (boot_heap P) h
noncomputable def lookR (P:Params) (s:Shared):=(checksQ pw_pc0148_01 P s.heap s,openSeenQ zq5 zx7 (importedModules pw_pc0148_01.main.body) (λ _=>true) true s,obsF s)
noncomputable abbrev wB (w:World) (b:Bool):World:=w.withFollow "special-get-raises" b
set_option maxHeartbeats 0 in
theorem big0 (w:World) (os:OsState):(runG (stepQ (denoteQ tableQ) pw_pc0148_01 (wB w false)) (okQ 11 (some (.ref 6))) 4730 (S0 (wB w false).params os) (topStub pw_pc0148_01)).map (λ r=>lookR (wB w false).params r.abs)=some (true,openGood zq5 zx7,valF (wB w false)):=by
 kernel_rfl
set_option maxHeartbeats 0 in
theorem big1 (w:World) (os:OsState):(runG (stepQ (denoteQ tableQ) pw_pc0148_01 (wB w true)) (okQ 11 (some (.ref 6))) 4730 (S0 (wB w true).params os) (topStub pw_pc0148_01)).map (λ r=>lookR (wB w true).params r.abs)=some (true,openGood zq5 zx7,valF (wB w true)):=by
 kernel_rfl
theorem te_step:@stepT=stepQ:=PySem.W.Fast.te10156331382660048174
theorem te_denote:@denote=denoteQ:=PySem.W.Fast.te11892475500146522536
theorem te_table:@treeTable=tableQ:=PySem.W.Fast.te14364793385576792824
theorem te_ok:@stepOk=okQ:=PySem.W.Fast.te6613529449190102663
theorem te_seen:@openSeen=openSeenQ:=PySem.W.Fast.te4187177175401517315
theorem topW {w:World}(h:∀ os:OsState,(runG (stepQ (denoteQ tableQ) pw_pc0148_01 w) (okQ 11 (some (.ref 6))) 4730 (S0 w.params os) (topStub pw_pc0148_01)).map (λ r=>lookR w.params r.abs)=some (true,openGood zq5 zx7,valF w)) :
  (openEnds treeTable pw_pc0148_01 w 4730).map (λ s=>(openSeen zq5 zx7 (importedModules pw_pc0148_01.main.body) (λ _=>true) true s,obsF s))=some (openGood zq5 zx7,valF w):=by
 have hb:=boot_open (p:=pw_pc0148_01) (N:=4730) (by kernel_rfl) (by decide) (λ s=>by kernel_rfl) w
 obtain ⟨⟨hp,gs,d,k,os⟩,e,e'⟩:=Option.map_eq_some_iff.mp hb
 obtain ⟨rfl,rfl,rfl,rfl⟩:hp=boot_heap w.params∧gs=Array.mk []∧d=boot_drawn∧k=boot_toks:=by simpa using e'
 obtain ⟨r,hr,hl⟩:=Option.map_eq_some_iff.mp (h os)
 rw [← te_step,← te_denote,← te_table,← te_ok] at hr
 have ht:=runG_spec hr
 rw [S0_abs] at ht
 have z1:((boot_heap w.params).isNs mainGlobals && (Array.mk []:Array GenState).size == 0)=true:=by kernel_rfl
 have z2:(boot_heap w.params).objs.size=11:=by kernel_rfl
 have z3:(boot_heap w.params).nsMap mainGlobals "__annotations__" = some (.ref 6):=by kernel_rfl
 unfold lookR at hl
 rw [← te_seen] at hl
 obtain ⟨l1,l2⟩:=Prod.mk.inj hl
 obtain ⟨l2,l3⟩:=Prod.mk.inj l2
 have t:topFrom treeTable pw_pc0148_01 w 4730 ⟨boot_heap w.params,Array.mk [],boot_drawn,boot_toks,os⟩=some r.abs:=by
  unfold topFrom
  dsimp only
  rw [z1,z2,z3]
  show (topRun treeTable pw_pc0148_01 w 11 (some (.ref 6)) 4730 _ _).bind _=_
  rw [show topRun treeTable pw_pc0148_01 w 11 (some (.ref 6)) 4730 ⟨boot_heap w.params,Array.mk [],boot_drawn,boot_toks,os⟩ (topStub pw_pc0148_01)=some r.abs from ht]
  show (match staticsOk (importedModules pw_pc0148_01.main.body) (boot_heap w.params) r.abs.heap && namesBound pw_pc0148_01 r.abs.heap && gensDone r.abs && laidKept (boot_heap w.params) r.abs.heap with | true=>some r.abs | false=>none)=_
  unfold checksQ at l1
  rw [l1]
 unfold openEnds
 rw [e]
 show (topFrom treeTable pw_pc0148_01 w 4730 ⟨boot_heap w.params,Array.mk [],boot_drawn,boot_toks,os⟩).map _=_
 rw [t]
 exact congrArg some (Prod.ext l2 l3)
theorem leftF:LeftO pw_pc0148_01 zq5 zx7 (λ _=>true) obsF valF 4730:=λ w=>
 byRow2 "special-get-raises" (P:=λ w=>(openEnds treeTable pw_pc0148_01 w 4730).map (λ s=>(openSeen zq5 zx7 (importedModules pw_pc0148_01.main.body) (λ _=>true) true s,obsF s))=some (openGood zq5 zx7,valF w))
  (λ w=>topW (big0 w)) (λ w=>topW (big1 w)) w
noncomputable def posOfS:Option Stmt→Pos
 | some (.FunctionDef _ _ _ _ _ _ _ _ _ p)=>p
 | _=>default
noncomputable def lawD:DefRec:={ name := "law",params:=(topD 83).2.1,body:=(topD 83).2.2.1,scope:=(topD 83).2.2.2,pos:=posOfS (pw_pc0148_01.main.body[83]?) }
theorem lawD_of:defOf zq5 "law" = some (lawD,[]):=by kernel_rfl
set_option maxHeartbeats 4000000 in
theorem holdsF (call:WalkX zq5 zx7 (λ _ _=>True) obsF valF rw_pc0148_01.row.toRowW lawD [] λ f vs=>PySem.call f vs):rw_pc0148_01.Holds:=by
 refine holds_law Mine.well λ said=>?_
 refine holds_openX (q:=zq5) (loose:=zx7) (Xt:=λ _=>true) (XP:=λ _ _=>True) (N:=4730) leftF (λ _ _=>trivial) (λ _ _ _ _ _=>trivial) lawD_of ?hp ?hk (λ s _=>recFacts_nil rfl) (by rfl) said ?ok ⟨rfl,rfl,rfl,rfl,rfl,?b⟩ ?hw call
 case hp=>kernel_rfl
 case hk=>kernel_rfl
 case ok=>decide +kernel
 case b=>decide +kernel
 case hw=>w_witness2
end
namespace AI
section
noncomputable def AllL {α:Type}(Q:α→Prop) (l:List α):Prop:=List.rec True (λ a _ ih=>Q a∧ih) l
theorem AllL.mem {α:Type}{Q:α→Prop}{a:α}{l:List α}:AllL Q l→a∈l→Q a:=by
 induction l with
 | nil=>exact λ _ h=>nomatch h
 | cons x l ih=>exact λ h m=>(List.mem_cons.mp m).elim (λ e=>e▸h.1) (ih h.2)
noncomputable def zqg (K:Frag) (P:Params) (x:Str) (a:AV):Prop:=(∃ v,nsIn K mainGlobals x=some (some v)∧VR K P [] [] a v)∨(∃ v,nsIn K mainGlobals x=some none∧bootBuiltins x=some v∧x ≠ "__name__" ∧ VR K P [] [] a v)
theorem glob_0 (P:Params):zqg (KF P) P "is_part_next" (.gref 29):=.inl ⟨.ref 29,by kernel_rfl,.gref 29⟩
theorem glob_1 (P:Params):zqg (KF P) P "read_subscripts" (.gref 36):=.inl ⟨.ref 36,by kernel_rfl,.gref 36⟩
theorem glob_2 (P:Params):zqg (KF P) P "read_ref" (.gref 50):=.inl ⟨.ref 50,by kernel_rfl,.gref 50⟩
theorem glob_3 (P:Params):zqg (KF P) P "read_figure" (.gref 64):=.inl ⟨.ref 64,by kernel_rfl,.gref 64⟩
theorem glob_4 (P:Params):zqg (KF P) P "read_operand" (.gref 71):=.inl ⟨.ref 71,by kernel_rfl,.gref 71⟩
theorem glob_5 (P:Params):zqg (KF P) P "decimal" (.gref 139):=.inl ⟨.ref 139,by kernel_rfl,.gref 139⟩
theorem glob_6 (P:Params):zqg (KF P) P "worth_of" (.gref 174):=.inl ⟨.ref 174,by kernel_rfl,.gref 174⟩
theorem glob_7 (P:Params):zqg (KF P) P "read_decimal" (.gref 181):=.inl ⟨.ref 181,by kernel_rfl,.gref 181⟩
theorem glob_8 (P:Params):zqg (KF P) P "read_expression" (.gref 188):=.inl ⟨.ref 188,by kernel_rfl,.gref 188⟩
theorem glob_9 (P:Params):zqg (KF P) P "sign_among" (.gref 195):=.inl ⟨.ref 195,by kernel_rfl,.gref 195⟩
theorem glob_10 (P:Params):zqg (KF P) P "read_sum" (.gref 202):=.inl ⟨.ref 202,by kernel_rfl,.gref 202⟩
theorem glob_11 (P:Params):zqg (KF P) P "read_product" (.gref 209):=.inl ⟨.ref 209,by kernel_rfl,.gref 209⟩
theorem glob_12 (P:Params):zqg (KF P) P "read_factor" (.gref 216):=.inl ⟨.ref 216,by kernel_rfl,.gref 216⟩
theorem glob_13 (P:Params):zqg (KF P) P "is_lone_number" (.gref 223):=.inl ⟨.ref 223,by kernel_rfl,.gref 223⟩
theorem glob_14 (P:Params):zqg (KF P) P "read_power" (.gref 230):=.inl ⟨.ref 230,by kernel_rfl,.gref 230⟩
theorem glob_15 (P:Params):zqg (KF P) P "read_primary" (.gref 237):=.inl ⟨.ref 237,by kernel_rfl,.gref 237⟩
theorem glob_16 (P:Params):zqg (KF P) P "word_here" (.gref 250):=.inl ⟨.ref 250,by kernel_rfl,.gref 250⟩
theorem glob_17 (P:Params):zqg (KF P) P "is_relation_at" (.gref 257):=.inl ⟨.ref 257,by kernel_rfl,.gref 257⟩
theorem glob_18 (P:Params):zqg (KF P) P "place_of_word" (.gref 264):=.inl ⟨.ref 264,by kernel_rfl,.gref 264⟩
theorem glob_19 (P:Params):zqg (KF P) P "is_predicate_here" (.gref 271):=.inl ⟨.ref 271,by kernel_rfl,.gref 271⟩
theorem glob_20 (P:Params):zqg (KF P) P "is_bare_relation_here" (.gref 278):=.inl ⟨.ref 278,by kernel_rfl,.gref 278⟩
theorem glob_21 (P:Params):zqg (KF P) P "read_condition" (.gref 384):=.inl ⟨.ref 384,by kernel_rfl,.gref 384⟩
theorem glob_22 (P:Params):zqg (KF P) P "body_here" (.gref 391):=.inl ⟨.ref 391,by kernel_rfl,.gref 391⟩
theorem glob_23 (P:Params):zqg (KF P) P "name_pair" (.gref 398):=.inl ⟨.ref 398,by kernel_rfl,.gref 398⟩
theorem glob_24 (P:Params):zqg (KF P) P "read_if" (.gref 405):=.inl ⟨.ref 405,by kernel_rfl,.gref 405⟩
theorem glob_25 (P:Params):zqg (KF P) P "read_goto" (.gref 412):=.inl ⟨.ref 412,by kernel_rfl,.gref 412⟩
theorem glob_26 (P:Params):zqg (KF P) P "read_exit" (.gref 419):=.inl ⟨.ref 419,by kernel_rfl,.gref 419⟩
theorem glob_27 (P:Params):zqg (KF P) P "read_stop" (.gref 426):=.inl ⟨.ref 426,by kernel_rfl,.gref 426⟩
theorem glob_28 (P:Params):zqg (KF P) P "is_reserved" (.gref 463):=.inl ⟨.ref 463,by kernel_rfl,.gref 463⟩
theorem glob_29 (P:Params):zqg (KF P) P "_law_draw" (.gref 648):=.inl ⟨.ref 648,by kernel_rfl,.gref 648⟩
theorem glob_30 (P:Params):zqg (KF P) P "_law_source" (.gref 653):=.inl ⟨.ref 653,by kernel_rfl,.gref 653⟩
theorem glob_31 (P:Params):zqg (KF P) P "_law_REFS" (.gref 673):=.inl ⟨.ref 673,by kernel_rfl,.gref 673⟩
theorem glob_32 (P:Params):zqg (KF P) P "_law_CONDS" (.gref 680):=.inl ⟨.ref 680,by kernel_rfl,.gref 680⟩
theorem glob_33 (P:Params):zqg (KF P) P "_law_pick" (.gref 687):=.inl ⟨.ref 687,by kernel_rfl,.gref 687⟩
theorem glob_34 (P:Params):zqg (KF P) P "_law_tokens" (.gref 694):=.inl ⟨.ref 694,by kernel_rfl,.gref 694⟩
theorem glob_35 (P:Params):zqg (KF P) P "_law_heard" (.gref 708):=.inl ⟨.ref 708,by kernel_rfl,.gref 708⟩
theorem glob_36 (P:Params):zqg (KF P) P "_law_small" (.gref 715):=.inl ⟨.ref 715,by kernel_rfl,.gref 715⟩
theorem glob_37 (P:Params):zqg (KF P) P "_law_read" (.gref 722):=.inl ⟨.ref 722,by kernel_rfl,.gref 722⟩
theorem glob_38 (P:Params):zqg (KF P) P "_law_statements" (.gref 729):=.inl ⟨.ref 729,by kernel_rfl,.gref 729⟩
theorem glob_39 (P:Params):zqg (KF P) P "_law_body_words" (.gref 736):=.inl ⟨.ref 736,by kernel_rfl,.gref 736⟩
theorem glob_40 (P:Params):zqg (KF P) P "_law_if_words" (.gref 743):=.inl ⟨.ref 743,by kernel_rfl,.gref 743⟩
theorem glob_41 (P:Params):zqg (KF P) P "law" (.gref 748):=.inl ⟨.ref 748,by kernel_rfl,.gref 748⟩
theorem glob_42 (P:Params):zqg (KF P) P "len" (.blt "len"):=.inr ⟨.builtin "len",by kernel_rfl,rfl,by decide,.blt _ rfl⟩
theorem glob_43 (P:Params):zqg (KF P) P "min" (.blt "min"):=.inr ⟨.builtin "min",by kernel_rfl,rfl,by decide,.blt _ rfl⟩
theorem glob_44 (P:Params):zqg (KF P) P "tuple" (.typ "tuple"):=.inr ⟨.type "tuple",by kernel_rfl,rfl,by decide,.typ _⟩
theorem glob_45 (P:Params):zqg (KF P) P "RESERVED" (.res):=.inl ⟨.str zq9 871,by kernel_rfl,.res _⟩
theorem glob_46 (P:Params):zqg (KF P) P "GrammarFault" (.gref 122):=.inl ⟨.ref 122,by kernel_rfl,.gref 122⟩
theorem glob_47 (P:Params):zqg (KF P) P "Token" (.gref 452):=.inl ⟨.ref 452,by kernel_rfl,.gref 452⟩
theorem glob_48 (P:Params):zqg (KF P) P "Reader" (.gref 637):=.inl ⟨.ref 637,by kernel_rfl,.gref 637⟩
theorem glob_49 (P:Params):zqg (KF P) P "MOST_SUBSCRIPTS" (.int 7):=.inl ⟨.int 7 196,by kernel_rfl,(.int 7 196)⟩
theorem glob_50 (P:Params):zqg (KF P) P "MOST_DEEP_expressions" (.int 20):=.inl ⟨.int 20 447,by kernel_rfl,(.int 20 447)⟩
theorem glob_51 (P:Params):zqg (KF P) P "MOST_DEEP_conditions" (.int 20):=.inl ⟨.int 20 526,by kernel_rfl,(.int 20 526)⟩
theorem glob_52 (P:Params):zqg (KF P) P "FIGURE_NAMES" (.gref 22):=.inl ⟨.ref 22,by kernel_rfl,.gref 22⟩
theorem glob_53 (P:Params):zqg (KF P) P "OPPOSITES" (.gref 238):=.inl ⟨.ref 238,by kernel_rfl,.gref 238⟩
theorem glob_54 (P:Params):zqg (KF P) P "WORDS_OF_SIGNS" (.gref 240):=.inl ⟨.ref 240,by kernel_rfl,.gref 240⟩
theorem glob_55 (P:Params):zqg (KF P) P "WORDS_OF_RELATIONS" (.gref 241):=.inl ⟨.ref 241,by kernel_rfl,.gref 241⟩
theorem glob_56 (P:Params):zqg (KF P) P "CLASSES" (.tup [.str "NUMERIC",.str "ALPHABETIC",.str "ALPHABETIC-LOWER",.str "ALPHABETIC-UPPER"]):=.inl ⟨.ref 239,by kernel_rfl,(.tup (a:=239) (vs:=[.str "NUMERIC" 547,.str "ALPHABETIC" 548,.str "ALPHABETIC-LOWER" 549,.str "ALPHABETIC-UPPER" 550]) (n:=0) (dd:=none) (sl:=#[]) (.inr rfl) (.cons (.str "NUMERIC" 547) (.cons (.str "ALPHABETIC" 548) (.cons (.str "ALPHABETIC-LOWER" 549) (.cons (.str "ALPHABETIC-UPPER" 550) .nil)))))⟩
theorem glob_57 (P:Params):zqg (KF P) P "RELATIONS" (.tup [.str "=",.str "<",.str ">",.str "<=",.str ">="]):=.inl ⟨.ref 242,by kernel_rfl,(.tup (a:=242) (vs:=[.str "=" 578,.str "<" 579,.str ">" 580,.str "<=" 581,.str ">=" 582]) (n:=0) (dd:=none) (sl:=#[]) (.inr rfl) (.cons (.str "=" 578) (.cons (.str "<" 579) (.cons (.str ">" 580) (.cons (.str "<=" 581) (.cons (.str ">=" 582) .nil))))))⟩
theorem glob_58 (P:Params):zqg (KF P) P "ConditionReader" (.gref 372):=.inl ⟨.ref 372,by kernel_rfl,.gref 372⟩
theorem glob_59 (P:Params):zqg (KF P) P "_law_A" (aA):=.inl ⟨.ref 656,by kernel_rfl,(.tup (a:=656) (vs:=[.str "ref" 1111,.str "A" 1112,.ref 654,.ref 655,.none]) (n:=0) (dd:=none) (sl:=#[]) (.inr rfl) (.cons (.str "ref" 1111) (.cons (.str "A" 1112) (.cons (.tup (a:=654) (vs:=[]) (n:=0) (dd:=none) (sl:=#[]) (.inr rfl) .nil) (.cons (.tup (a:=655) (vs:=[]) (n:=0) (dd:=none) (sl:=#[]) (.inr rfl) .nil) (.cons .none .nil))))))⟩
theorem glob_60 (P:Params):zqg (KF P) P "_law_B" (aB):=.inl ⟨.ref 659,by kernel_rfl,(.tup (a:=659) (vs:=[.str "ref" 1114,.str "B" 1115,.ref 657,.ref 658,.none]) (n:=0) (dd:=none) (sl:=#[]) (.inr rfl) (.cons (.str "ref" 1114) (.cons (.str "B" 1115) (.cons (.tup (a:=657) (vs:=[.str "C" 1116]) (n:=0) (dd:=none) (sl:=#[]) (.inr rfl) (.cons (.str "C" 1116) .nil)) (.cons (.tup (a:=658) (vs:=[]) (n:=0) (dd:=none) (sl:=#[]) (.inr rfl) .nil) (.cons .none .nil))))))⟩
theorem glob_61 (P:Params):zqg (KF P) P "_law_T" (aT):=.inl ⟨.ref 664,by kernel_rfl,(.tup (a:=664) (vs:=[.str "ref" 1118,.str "T" 1119,.ref 660,.ref 663,.none]) (n:=0) (dd:=none) (sl:=#[]) (.inr rfl) (.cons (.str "ref" 1118) (.cons (.str "T" 1119) (.cons (.tup (a:=660) (vs:=[]) (n:=0) (dd:=none) (sl:=#[]) (.inr rfl) .nil) (.cons (.tup (a:=663) (vs:=[.ref 662]) (n:=0) (dd:=none) (sl:=#[]) (.inr rfl) (.cons (.tup (a:=662) (vs:=[.str "number" 1120,.ref 661]) (n:=0) (dd:=none) (sl:=#[]) (.inr rfl) (.cons (.str "number" 1120) (.cons (.tup (a:=661) (vs:=[.int 2 1121,.int 0 1122]) (n:=0) (dd:=none) (sl:=#[]) (.inr rfl) (.cons (.int 2 1121) (.cons (.int 0 1122) .nil))) .nil))) .nil)) (.cons .none .nil))))))⟩
theorem glob_62 (P:Params):zqg (KF P) P "_law_ONE" (aOne):=.inl ⟨.ref 666,by kernel_rfl,(.tup (a:=666) (vs:=[.str "number" 1124,.ref 665]) (n:=0) (dd:=none) (sl:=#[]) (.inr rfl) (.cons (.str "number" 1124) (.cons (.tup (a:=665) (vs:=[.int 1 1125,.int 0 1126]) (n:=0) (dd:=none) (sl:=#[]) (.inr rfl) (.cons (.int 1 1125) (.cons (.int 0 1126) .nil))) .nil)))⟩
theorem glob_all (P:Params):AllL (λ p=>zqg (KF P) P p.1 p.2) globTab:=⟨glob_0 P,glob_1 P,glob_2 P,glob_3 P,glob_4 P,glob_5 P,glob_6 P,glob_7 P,glob_8 P,glob_9 P,glob_10 P,glob_11 P,glob_12 P,glob_13 P,glob_14 P,glob_15 P,glob_16 P,glob_17 P,glob_18 P,glob_19 P,glob_20 P,glob_21 P,glob_22 P,glob_23 P,glob_24 P,glob_25 P,glob_26 P,glob_27 P,glob_28 P,glob_29 P,glob_30 P,glob_31 P,glob_32 P,glob_33 P,glob_34 P,glob_35 P,glob_36 P,glob_37 P,glob_38 P,glob_39 P,glob_40 P,glob_41 P,glob_42 P,glob_43 P,glob_44 P,glob_45 P,glob_46 P,glob_47 P,glob_48 P,glob_49 P,glob_50 P,glob_51 P,glob_52 P,glob_53 P,glob_54 P,glob_55 P,glob_56 P,glob_57 P,glob_58 P,glob_59 P,glob_60 P,glob_61 P,glob_62 P,trivial⟩
noncomputable def zjw (K:Frag) (c:Nat) (n:Str):Prop:=(plainGet K c n=true∧hasDictIn K c=true∧findIn K (.ref c) n=some none)∧(findIn K (.ref c) "__setattr__" = some (some (.builtin "object.__setattr__"))∧plainOver K c=true∧takerIn K c n=some none)
theorem strIn_memT {x:Str}{l:List Str}(h:zxc x l=true):x∈l:=by
 induction l with
 | nil=>cases h
 | cons y l ih=>
  have h:cd (sB y x) true (zxc x l)=true:=h
  cases q:sB y x with
  | true=>rw [zqo.mp q];exact List.mem_cons_self ..
  | false=>rw [q] at h;exact List.mem_cons_of_mem _ (ih h)
theorem zzc {α:Type}{a:Nat}{b:α}{l:List (Nat × α)}(h:zj6 a l=some b):(a,b)∈l:=by
 induction l with
 | nil=>exact nn h
 | cons p l ih=>exact cd_q h (λ q h=>by rw [← Nat.eq_of_beq_eq_true q,← Option.some.inj h];exact List.mem_cons_self ..) λ _ h=>List.mem_cons_of_mem _ (ih h)
theorem attr_372_0 (P:Params):zjw (KF P) 372 "reader" := ⟨⟨by kernel_rfl,by kernel_rfl,by kernel_rfl⟩,by kernel_rfl,by kernel_rfl,by kernel_rfl⟩
theorem attr_372_1 (P:Params):zjw (KF P) 372 "is_named" := ⟨⟨by kernel_rfl,by kernel_rfl,by kernel_rfl⟩,by kernel_rfl,by kernel_rfl,by kernel_rfl⟩
theorem attr_372_2 (P:Params):zjw (KF P) 372 "depth" := ⟨⟨by kernel_rfl,by kernel_rfl,by kernel_rfl⟩,by kernel_rfl,by kernel_rfl,by kernel_rfl⟩
theorem attr_372_3 (P:Params):zjw (KF P) 372 "last" := ⟨⟨by kernel_rfl,by kernel_rfl,by kernel_rfl⟩,by kernel_rfl,by kernel_rfl,by kernel_rfl⟩
theorem attr_452_0 (P:Params):zjw (KF P) 452 "kind" := ⟨⟨by kernel_rfl,by kernel_rfl,by kernel_rfl⟩,by kernel_rfl,by kernel_rfl,by kernel_rfl⟩
theorem attr_452_1 (P:Params):zjw (KF P) 452 "worth" := ⟨⟨by kernel_rfl,by kernel_rfl,by kernel_rfl⟩,by kernel_rfl,by kernel_rfl,by kernel_rfl⟩
theorem attr_452_2 (P:Params):zjw (KF P) 452 "at" := ⟨⟨by kernel_rfl,by kernel_rfl,by kernel_rfl⟩,by kernel_rfl,by kernel_rfl,by kernel_rfl⟩
theorem attr_452_3 (P:Params):zjw (KF P) 452 "is_in_a" := ⟨⟨by kernel_rfl,by kernel_rfl,by kernel_rfl⟩,by kernel_rfl,by kernel_rfl,by kernel_rfl⟩
theorem attr_637_0 (P:Params):zjw (KF P) 637 "tokens" := ⟨⟨by kernel_rfl,by kernel_rfl,by kernel_rfl⟩,by kernel_rfl,by kernel_rfl,by kernel_rfl⟩
theorem attr_637_1 (P:Params):zjw (KF P) 637 "at" := ⟨⟨by kernel_rfl,by kernel_rfl,by kernel_rfl⟩,by kernel_rfl,by kernel_rfl,by kernel_rfl⟩
theorem attr_637_2 (P:Params):zjw (KF P) 637 "named" := ⟨⟨by kernel_rfl,by kernel_rfl,by kernel_rfl⟩,by kernel_rfl,by kernel_rfl,by kernel_rfl⟩
theorem attr_all (P:Params):AllL (λ p:Nat × List Str=>AllL (zjw (KF P) p.1) p.2) attrTab:=⟨⟨attr_372_0 P,attr_372_1 P,attr_372_2 P,attr_372_3 P,trivial⟩,⟨attr_452_0 P,attr_452_1 P,attr_452_2 P,attr_452_3 P,trivial⟩,⟨attr_637_0 P,attr_637_1 P,attr_637_2 P,trivial⟩,trivial⟩
theorem attr_q (P:Params) {c:Nat}{n:Str}(h:zzi c n=true):zjw (KF P) c n:=by
 unfold zzi at h
 cases q:zj6 c attrTab with
 | none=>rw [q] at h;cases h
 | some l=>rw [q] at h;exact ((attr_all P).mem (a:=(c,l)) (zzc q)).mem (strIn_memT h)
theorem dict_22 (P:Params):∃ es n,(KF P).lookup 22=some ⟨.type "dict",none,.dict es n,#[]⟩∧zzj P [(kv "ZERO" <| "ZERO"),(kv "ZEROS" <| "ZERO"),(kv "ZEROES" <| "ZERO"),(kv "SPACE" <| "SPACE"),(kv "SPACES" <| "SPACE"),(kv "HIGH-VALUE" <| "HIGH"),(kv "HIGH-VALUES" <| "HIGH"),(kv "LOW-VALUE" <| "LOW"),(kv "LOW-VALUES" <| "LOW"),(kv "QUOTE" <| "QUOTE"),(kv "QUOTES" <| "QUOTE")] es.toList:=⟨_,_,rfl,(.cons (.cons (.cons (.cons (.cons (.cons (.cons (.cons (.cons (.cons (.cons .nil)))))))))))⟩
theorem dict_238 (P:Params):∃ es n,(KF P).lookup 238=some ⟨.type "dict",none,.dict es n,#[]⟩∧zzj P [(kv "=" <| "<>"),(kv "<>" <| "="),(kv "<" <| ">="),(kv ">=" <| "<"),(kv ">" <| "<="),(kv "<=" <| ">")] es.toList:=⟨_,_,rfl,(.cons (.cons (.cons (.cons (.cons (.cons .nil))))))⟩
theorem dict_240 (P:Params):∃ es n,(KF P).lookup 240=some ⟨.type "dict",none,.dict es n,#[]⟩∧zzj P [(kv "POSITIVE" <| "POSITIVE"),(kv "NEGATIVE" <| "NEGATIVE"),(kv "ZERO" <| "ZERO"),(kv "ZEROS" <| "ZERO"),(kv "ZEROES" <| "ZERO")] es.toList:=⟨_,_,rfl,(.cons (.cons (.cons (.cons (.cons .nil)))))⟩
theorem dict_241 (P:Params):∃ es n,(KF P).lookup 241=some ⟨.type "dict",none,.dict es n,#[]⟩∧zzj P [(kv "GREATER" <| ">"),(kv "LESS" <| "<"),(kv "EQUAL" <| "=")] es.toList:=⟨_,_,rfl,(.cons (.cons (.cons .nil)))⟩
theorem dict_all (P:Params):AllL (λ p:Nat × List (Str × Str)=>(p.1 == sysModules)=false∧∃ es n,(KF P).lookup p.1=some ⟨.type "dict",none,.dict es n,#[]⟩∧zzj P p.2 es.toList) dictTab:=⟨⟨by decide,dict_22 P⟩,⟨by decide,dict_238 P⟩,⟨by decide,dict_240 P⟩,⟨by decide,dict_241 P⟩,trivial⟩
end
section
noncomputable def fnChk (fd:Fn):Bool:=zqc fd.dfl && !fd.scope.isCoroutine && !fd.scope.isGenerator && isFun fd.scope.kind && nodS fd.params && (fd.params.all λ y=>fd.scope.names.lookup y == some .local || fd.scope.names.lookup y == some .cell) && fd.scope.names.all λ p=>!NameKind.cel p.2
theorem no_cells {l:List (Str × NameKind)}{acc:List (Str × Addr)}(n:Nat) (h:(l.all λ p=>!NameKind.cel p.2)=true):cellsFrom n l acc=acc:=by
 induction l with
 | nil=>rfl
 | cons p l ih=>
  rw [List.all_cons,Bool.and_eq_true] at h
  unfold cellsFrom
  have hk:(p.2 == NameKind.cell)=false:=by
   have h1:=h.1
   revert h1
   cases p.2<;>first | exact λ _=>rfl | exact λ h=>Bool.noConfusion h
  rw [hk]
  exact ih h.2
theorem zqw.of {K:Frag}{P:Params}{a:Nat}{fd:Fn}(ex:FnEx K P a fd) (k:fnChk fd=true):zqw K P a fd:=by
 unfold fnChk at k
 simp only [Bool.and_eq_true,Bool.not_eq_true'] at k
 obtain ⟨⟨⟨⟨⟨⟨k1,k2⟩,k3⟩,k4⟩,k5⟩,k6⟩,k7⟩:=k
 exact ⟨ex,k1,k2,k3,isFun_eq k4,zzn k5,k6,.inl λ n=>no_cells n k7⟩
theorem zx3 {sc:Scope}{X:TabI→Prop}(h:zxe sc=none):∀ i,zxe sc=some i→X i:=λ i hi=>by rw [h] at hi;cases hi
noncomputable abbrev FQ (P:Params) (a:Nat):Prop:=∀ fd,out.fn a=some fd→zqw (KF P) P a fd
theorem zqb {P:Params}{a:Nat}{d:Str × Arguments × List Stmt × Scope}{qual:Str}{pm cdv:Value}{as:List Arg}{ps:List Str}(e:out.fn a=some ⟨ps,[],d.2.2.1,d.2.2.2⟩) (hl:(KF P).lookup a=some ⟨.type "function",none,.func (fnO d qual .none pm cdv),#[]⟩)
  (hp:d.2.1=⟨[],as,none,[],[],none,[]⟩) (hn:as.map (·.arg)=ps) (code:codeIn (KF P) cdv qual=true) (chk:fnChk ⟨ps,[],d.2.2.1,d.2.2.2⟩=true) (ns:zxe d.2.2.2=none) (fd:Fn) (h:out.fn a=some fd):zqw (KF P) P a fd:=by
 cases e.symm.trans h
 have nd:ps.Nodup:=by
  unfold fnChk at chk
  simp only [Bool.and_eq_true] at chk
  exact zzn chk.1.1.2
 refine .of ⟨_,qual,_,_,_,_,pm,_,cdv,_,_,_,_,[],hl,code,.nil,zx3 ns,λ vs h1 h2 S=>?_⟩ chk
 have hl2:vs.length=as.length:=by
  have:as.length=ps.length:=by rw [← hn,List.length_map]
  rw [this];exact Nat.le_antisymm h1 h2
 have b:=zxu (fd:=fnX d.1 qual d.2.1 d.2.2.1 d.2.2.2 [] .none .none .none pm none cdv .none) hp rfl hl2 (by rw [hn];exact nd)
 rw [hn] at b
 show peek (KF P) S (bindArgs (fnX d.1 qual d.2.1 d.2.2.1 d.2.2.2 [] .none .none .none pm none cdv .none) ⟨vs,[]⟩)=some (ps.zip (vs++List.drop _ []))
 rw [b,List.drop_nil,List.append_nil]
 rfl
theorem fact491 (P:Params) (fd:Fn) (h:out.fn 491=some fd):zqw (KF P) P 491 fd:=by
 cases (show out.fn 491=some ⟨["self", "ahead"],[.int 0],(metD 64 1).2.2.1,(metD 64 1).2.2.2⟩ from by kernel_rfl).symm.trans h
 refine .of ⟨_,_,_,_,_,_,_,_,_,_,_,_,_,[.int 0 908],rfl,?_,.cons (.int _ _) .nil,?_,?_⟩ (by kernel_rfl)
 ·kernel_rfl
 ·exact zx3 (by kernel_rfl)
 ·intro vs h1 h2 S
  match vs,h1,h2 with
  | [],_,h2=>simp at h2
  | [a],_,_=>kernel_rfl
  | [a,b],_,_=>kernel_rfl
  | _::_::_::_,h1,_=>simp at h1
theorem fact483 (P:Params) (fd:Fn) (h:out.fn 483=some fd):zqw (KF P) P 483 fd:=by
 cases (show out.fn 483=some ⟨["self", "tokens", "at"],[.int 0],(metD 64 0).2.2.1,(metD 64 0).2.2.2⟩ from by kernel_rfl).symm.trans h
 refine .of ⟨_,_,_,_,_,_,_,_,_,_,_,_,_,[.int 0 898],rfl,?_,.cons (.int _ _) .nil,?_,?_⟩ (by kernel_rfl)
 ·kernel_rfl
 ·exact zx3 (by kernel_rfl)
 ·intro vs h1 h2 S
  match vs,h1,h2 with
  | [],_,h2=>simp at h2
  | [_],_,h2=>simp at h2
  | [a,b],_,_=>kernel_rfl
  | [a,b,c],_,_=>kernel_rfl
  | _::_::_::_::_,h1,_=>simp at h1
theorem fact442 (P:Params) (fd:Fn) (h:out.fn 442=some fd):zqw (KF P) P 442 fd:=by
 cases (show out.fn 442=some ⟨["self", "kind", "worth", "at", "is_in_a"],[.tup [.int 0,.int 0],.bool false],(metD 58 0).2.2.1,(metD 58 0).2.2.2⟩ from by kernel_rfl).symm.trans h
 refine .of ⟨_,_,_,_,_,_,_,_,_,_,_,_,_,[.ref 434,.bool false],rfl,?_,.cons (.tup (n:=0) (dd:=none) (sl:=#[]) (.inr (by kernel_rfl)) (.cons (.int 0 835) (.cons (.int 0 836) .nil))) (.cons (.bool _) .nil),?_,?_⟩ (by kernel_rfl)
 ·kernel_rfl
 ·exact zx3 (by kernel_rfl)
 ·intro vs h1 h2 S
  match vs,h1,h2 with
  | [],_,h2=>simp at h2
  | [_],_,h2=>simp at h2
  | [_,_],_,h2=>simp at h2
  | [a,b,c],_,_=>kernel_rfl
  | [a,b,c,d],_,_=>kernel_rfl
  | [a,b,c,d,e],_,_=>kernel_rfl
  | _::_::_::_::_::_::_,h1,_=>simp at h1
theorem fact139 (P:Params) (fd:Fn) (h:out.fn 139=some fd):zqw (KF P) P 139 fd:=by
 cases (show out.fn 139=some ⟨["units", "scale"],[.int 0],(topD 18).2.2.1,(topD 18).2.2.2⟩ from by kernel_rfl).symm.trans h
 refine .of ⟨_,_,_,_,_,_,_,_,_,_,_,_,_,[.int 0 382],rfl,?_,.cons (.int _ _) .nil,?_,?_⟩ (by kernel_rfl)
 ·kernel_rfl
 ·exact zx3 (by kernel_rfl)
 ·intro vs h1 h2 S
  match vs,h1,h2 with
  | [],_,h2=>simp at h2
  | [a],_,_=>kernel_rfl
  | [a,b],_,_=>kernel_rfl
  | _::_::_::_,h1,_=>simp at h1
theorem fact250 (P:Params) (fd:Fn) (h:out.fn 250=some fd):zqw (KF P) P 250 fd:=by
 cases (show out.fn 250=some ⟨["reader", "ahead"],[.int 0],(topD 42).2.2.1,(topD 42).2.2.2⟩ from by kernel_rfl).symm.trans h
 refine .of ⟨_,_,_,_,_,_,_,_,_,_,_,_,_,[.int 0 584],rfl,?_,.cons (.int _ _) .nil,?_,?_⟩ (by kernel_rfl)
 ·kernel_rfl
 ·exact zx3 (by kernel_rfl)
 ·intro vs h1 h2 S
  match vs,h1,h2 with
  | [],_,h2=>simp at h2
  | [a],_,_=>kernel_rfl
  | [a,b],_,_=>kernel_rfl
  | _::_::_::_,h1,_=>simp at h1
theorem fact384 (P:Params) (fd:Fn) (h:out.fn 384=some fd):zqw (KF P) P 384 fd:=by
 cases (show out.fn 384=some ⟨["reader", "is_named"],[.none],(topD 48).2.2.1,(topD 48).2.2.2⟩ from by kernel_rfl).symm.trans h
 refine ⟨⟨_,_,_,_,_,_,_,_,_,_,_,_,_,[.none],rfl,?_,.cons .none .nil,?_,?_⟩,rfl,by kernel_rfl,by kernel_rfl,by kernel_rfl,by decide,by kernel_rfl,.inr ⟨"reader",λ n=>by kernel_rfl⟩⟩
 ·kernel_rfl
 ·intro i hi
  cases (show zxe (topD 48).2.2.2=some ⟨379,307,39, "read_condition.<locals>.<lambda>"⟩ from by kernel_rfl).symm.trans hi
  exact ⟨_,rfl,⟨_,_,_,_,_,_,_,_,_,rfl,rfl,rfl,rfl,rfl,rfl,rfl,rfl,rfl,by decide⟩,by kernel_rfl⟩
 ·intro vs h1 h2 S
  match vs,h1,h2 with
  | [],_,h2=>simp at h2
  | [a],_,_=>kernel_rfl
  | [a,b],_,_=>kernel_rfl
  | _::_::_::_,h1,_=>simp at h1
theorem fact520 (P:Params) (fd:Fn) (h:out.fn 520=some fd):zqw (KF P) P 520 fd:=by
 cases (show out.fn 520=some ⟨["self", "kind", "ahead"],[.int 0],(metD 64 5).2.2.1,(metD 64 5).2.2.2⟩ from by kernel_rfl).symm.trans h
 refine .of ⟨_,_,_,_,_,_,_,_,_,_,_,_,_,[.int 0 940],rfl,?_,.cons (.int _ _) .nil,?_,?_⟩ (by kernel_rfl)
 ·kernel_rfl
 ·exact zx3 (by kernel_rfl)
 ·intro vs h1 h2 S
  match vs,h1,h2 with
  | [],_,h2=>simp at h2
  | [_],_,h2=>simp at h2
  | [a,b],_,_=>kernel_rfl
  | [a,b,c],_,_=>kernel_rfl
  | _::_::_::_::_,h1,_=>simp at h1
theorem fact563 (P:Params) (fd:Fn) (h:out.fn 563=some fd):zqw (KF P) P 563 fd:=by
 cases (show out.fn 563=some ⟨["self", "ahead"],[.int 0],(metD 64 11).2.2.1,(metD 64 11).2.2.2⟩ from by kernel_rfl).symm.trans h
 refine .of ⟨_,_,_,_,_,_,_,_,_,_,_,_,_,[.int 0 993],rfl,?_,.cons (.int _ _) .nil,?_,?_⟩ (by kernel_rfl)
 ·kernel_rfl
 ·exact zx3 (by kernel_rfl)
 ·intro vs h1 h2 S
  match vs,h1,h2 with
  | [],_,h2=>simp at h2
  | [a],_,_=>kernel_rfl
  | [a,b],_,_=>kernel_rfl
  | _::_::_::_,h1,_=>simp at h1
theorem fact585 (P:Params) (fd:Fn) (h:out.fn 585=some fd):zqw (KF P) P 585 fd:=by
 cases (show out.fn 585=some ⟨["self", "sign", "ahead"],[.int 0],(metD 64 14).2.2.1,(metD 64 14).2.2.2⟩ from by kernel_rfl).symm.trans h
 refine .of ⟨_,_,_,_,_,_,_,_,_,_,_,_,_,[.int 0 1017],rfl,?_,.cons (.int _ _) .nil,?_,?_⟩ (by kernel_rfl)
 ·kernel_rfl
 ·exact zx3 (by kernel_rfl)
 ·intro vs h1 h2 S
  match vs,h1,h2 with
  | [],_,h2=>simp at h2
  | [_],_,h2=>simp at h2
  | [a,b],_,_=>kernel_rfl
  | [a,b,c],_,_=>kernel_rfl
  | _::_::_::_::_,h1,_=>simp at h1
theorem fact29 (P:Params):FQ P 29:=zqb (d:=topD 4) (by kernel_rfl) rfl rfl rfl (by kernel_rfl) (by kernel_rfl) (by kernel_rfl)
theorem fact36 (P:Params):FQ P 36:=zqb (d:=topD 5) (by kernel_rfl) rfl rfl rfl (by kernel_rfl) (by kernel_rfl) (by kernel_rfl)
theorem fact50 (P:Params):FQ P 50:=zqb (d:=topD 7) (by kernel_rfl) rfl rfl rfl (by kernel_rfl) (by kernel_rfl) (by kernel_rfl)
theorem fact64 (P:Params):FQ P 64:=zqb (d:=topD 9) (by kernel_rfl) rfl rfl rfl (by kernel_rfl) (by kernel_rfl) (by kernel_rfl)
theorem fact71 (P:Params):FQ P 71:=zqb (d:=topD 10) (by kernel_rfl) rfl rfl rfl (by kernel_rfl) (by kernel_rfl) (by kernel_rfl)
theorem fact94 (P:Params):FQ P 94:=zqb (d:=metD 12 1) (by kernel_rfl) rfl rfl rfl (by kernel_rfl) (by kernel_rfl) (by kernel_rfl)
theorem fact174 (P:Params):FQ P 174:=zqb (d:=topD 23) (by kernel_rfl) rfl rfl rfl (by kernel_rfl) (by kernel_rfl) (by kernel_rfl)
theorem fact181 (P:Params):FQ P 181:=zqb (d:=topD 24) (by kernel_rfl) rfl rfl rfl (by kernel_rfl) (by kernel_rfl) (by kernel_rfl)
theorem fact188 (P:Params):FQ P 188:=zqb (d:=topD 27) (by kernel_rfl) rfl rfl rfl (by kernel_rfl) (by kernel_rfl) (by kernel_rfl)
theorem fact195 (P:Params):FQ P 195:=zqb (d:=topD 28) (by kernel_rfl) rfl rfl rfl (by kernel_rfl) (by kernel_rfl) (by kernel_rfl)
theorem fact202 (P:Params):FQ P 202:=zqb (d:=topD 29) (by kernel_rfl) rfl rfl rfl (by kernel_rfl) (by kernel_rfl) (by kernel_rfl)
theorem fact209 (P:Params):FQ P 209:=zqb (d:=topD 30) (by kernel_rfl) rfl rfl rfl (by kernel_rfl) (by kernel_rfl) (by kernel_rfl)
theorem fact216 (P:Params):FQ P 216:=zqb (d:=topD 31) (by kernel_rfl) rfl rfl rfl (by kernel_rfl) (by kernel_rfl) (by kernel_rfl)
theorem fact223 (P:Params):FQ P 223:=zqb (d:=topD 32) (by kernel_rfl) rfl rfl rfl (by kernel_rfl) (by kernel_rfl) (by kernel_rfl)
theorem fact230 (P:Params):FQ P 230:=zqb (d:=topD 33) (by kernel_rfl) rfl rfl rfl (by kernel_rfl) (by kernel_rfl) (by kernel_rfl)
theorem fact237 (P:Params) (fd:Fn) (h:out.fn 237=some fd):zqw (KF P) P 237 fd:=by
 cases (show out.fn 237=some ⟨["reader", "depth"],[],(topD 34).2.2.1,(topD 34).2.2.2⟩ from by kernel_rfl).symm.trans h
 refine ⟨⟨_,_,_,_,_,_,_,_,_,_,_,_,_,[],rfl,?_,.nil,?_,?_⟩,rfl,by kernel_rfl,by kernel_rfl,by kernel_rfl,by decide,by kernel_rfl,.inr ⟨"depth",λ n=>by kernel_rfl⟩⟩
 ·kernel_rfl
 ·intro i hi
  cases (show zxe (topD 34).2.2.2=some ⟨232,174,36, "read_primary.<locals>.<lambda>"⟩ from by kernel_rfl).symm.trans hi
  exact ⟨_,rfl,⟨_,_,_,_,_,_,_,_,_,rfl,rfl,rfl,rfl,rfl,rfl,rfl,rfl,rfl,by decide⟩,by kernel_rfl⟩
 ·intro vs h1 h2 S
  match vs,h1,h2 with
  | [],_,h2=>simp at h2
  | [_],_,h2=>simp at h2
  | [a,b],_,_=>kernel_rfl
  | _::_::_::_,h1,_=>simp at h1
theorem fact257 (P:Params):FQ P 257:=zqb (d:=topD 43) (by kernel_rfl) rfl rfl rfl (by kernel_rfl) (by kernel_rfl) (by kernel_rfl)
theorem fact264 (P:Params):FQ P 264:=zqb (d:=topD 44) (by kernel_rfl) rfl rfl rfl (by kernel_rfl) (by kernel_rfl) (by kernel_rfl)
theorem fact271 (P:Params):FQ P 271:=zqb (d:=topD 45) (by kernel_rfl) rfl rfl rfl (by kernel_rfl) (by kernel_rfl) (by kernel_rfl)
theorem fact278 (P:Params):FQ P 278:=zqb (d:=topD 46) (by kernel_rfl) rfl rfl rfl (by kernel_rfl) (by kernel_rfl) (by kernel_rfl)
theorem fact292 (P:Params):FQ P 292:=zqb (d:=metD 47 0) (by kernel_rfl) rfl rfl rfl (by kernel_rfl) (by kernel_rfl) (by kernel_rfl)
theorem fact299 (P:Params):FQ P 299:=zqb (d:=metD 47 1) (by kernel_rfl) rfl rfl rfl (by kernel_rfl) (by kernel_rfl) (by kernel_rfl)
theorem fact306 (P:Params):FQ P 306:=zqb (d:=metD 47 2) (by kernel_rfl) rfl rfl rfl (by kernel_rfl) (by kernel_rfl) (by kernel_rfl)
theorem fact313 (P:Params):FQ P 313:=zqb (d:=metD 47 3) (by kernel_rfl) rfl rfl rfl (by kernel_rfl) (by kernel_rfl) (by kernel_rfl)
theorem fact320 (P:Params):FQ P 320:=zqb (d:=metD 47 4) (by kernel_rfl) rfl rfl rfl (by kernel_rfl) (by kernel_rfl) (by kernel_rfl)
theorem fact327 (P:Params):FQ P 327:=zqb (d:=metD 47 5) (by kernel_rfl) rfl rfl rfl (by kernel_rfl) (by kernel_rfl) (by kernel_rfl)
theorem fact334 (P:Params):FQ P 334:=zqb (d:=metD 47 6) (by kernel_rfl) rfl rfl rfl (by kernel_rfl) (by kernel_rfl) (by kernel_rfl)
theorem fact341 (P:Params):FQ P 341:=zqb (d:=metD 47 7) (by kernel_rfl) rfl rfl rfl (by kernel_rfl) (by kernel_rfl) (by kernel_rfl)
theorem fact348 (P:Params):FQ P 348:=zqb (d:=metD 47 8) (by kernel_rfl) rfl rfl rfl (by kernel_rfl) (by kernel_rfl) (by kernel_rfl)
theorem fact355 (P:Params):FQ P 355:=zqb (d:=metD 47 9) (by kernel_rfl) rfl rfl rfl (by kernel_rfl) (by kernel_rfl) (by kernel_rfl)
theorem fact362 (P:Params):FQ P 362:=zqb (d:=metD 47 10) (by kernel_rfl) rfl rfl rfl (by kernel_rfl) (by kernel_rfl) (by kernel_rfl)
theorem fact369 (P:Params):FQ P 369:=zqb (d:=metD 47 11) (by kernel_rfl) rfl rfl rfl (by kernel_rfl) (by kernel_rfl) (by kernel_rfl)
theorem fact391 (P:Params):FQ P 391:=zqb (d:=topD 50) (by kernel_rfl) rfl rfl rfl (by kernel_rfl) (by kernel_rfl) (by kernel_rfl)
theorem fact398 (P:Params):FQ P 398:=zqb (d:=topD 52) (by kernel_rfl) rfl rfl rfl (by kernel_rfl) (by kernel_rfl) (by kernel_rfl)
theorem fact405 (P:Params):FQ P 405:=zqb (d:=topD 53) (by kernel_rfl) rfl rfl rfl (by kernel_rfl) (by kernel_rfl) (by kernel_rfl)
theorem fact412 (P:Params):FQ P 412:=zqb (d:=topD 54) (by kernel_rfl) rfl rfl rfl (by kernel_rfl) (by kernel_rfl) (by kernel_rfl)
theorem fact419 (P:Params):FQ P 419:=zqb (d:=topD 55) (by kernel_rfl) rfl rfl rfl (by kernel_rfl) (by kernel_rfl) (by kernel_rfl)
theorem fact426 (P:Params):FQ P 426:=zqb (d:=topD 56) (by kernel_rfl) rfl rfl rfl (by kernel_rfl) (by kernel_rfl) (by kernel_rfl)
theorem fact463 (P:Params):FQ P 463:=zqb (d:=topD 62) (by kernel_rfl) rfl rfl rfl (by kernel_rfl) (by kernel_rfl) (by kernel_rfl)
theorem fact505 (P:Params):FQ P 505:=zqb (d:=metD 64 3) (by kernel_rfl) rfl rfl rfl (by kernel_rfl) (by kernel_rfl) (by kernel_rfl)
theorem fact512 (P:Params):FQ P 512:=zqb (d:=metD 64 4) (by kernel_rfl) rfl rfl rfl (by kernel_rfl) (by kernel_rfl) (by kernel_rfl)
theorem fact527 (P:Params):FQ P 527:=zqb (d:=metD 64 6) (by kernel_rfl) rfl rfl rfl (by kernel_rfl) (by kernel_rfl) (by kernel_rfl)
theorem fact534 (P:Params):FQ P 534:=zqb (d:=metD 64 7) (by kernel_rfl) rfl rfl rfl (by kernel_rfl) (by kernel_rfl) (by kernel_rfl)
theorem fact541 (P:Params):FQ P 541:=zqb (d:=metD 64 8) (by kernel_rfl) rfl rfl rfl (by kernel_rfl) (by kernel_rfl) (by kernel_rfl)
theorem fact548 (P:Params):FQ P 548:=zqb (d:=metD 64 9) (by kernel_rfl) rfl rfl rfl (by kernel_rfl) (by kernel_rfl) (by kernel_rfl)
theorem fact570 (P:Params):FQ P 570:=zqb (d:=metD 64 12) (by kernel_rfl) rfl rfl rfl (by kernel_rfl) (by kernel_rfl) (by kernel_rfl)
theorem fact592 (P:Params):FQ P 592:=zqb (d:=metD 64 15) (by kernel_rfl) rfl rfl rfl (by kernel_rfl) (by kernel_rfl) (by kernel_rfl)
theorem fact599 (P:Params):FQ P 599:=zqb (d:=metD 64 16) (by kernel_rfl) rfl rfl rfl (by kernel_rfl) (by kernel_rfl) (by kernel_rfl)
theorem fact606 (P:Params):FQ P 606:=zqb (d:=metD 64 17) (by kernel_rfl) rfl rfl rfl (by kernel_rfl) (by kernel_rfl) (by kernel_rfl)
theorem fact613 (P:Params):FQ P 613:=zqb (d:=metD 64 18) (by kernel_rfl) rfl rfl rfl (by kernel_rfl) (by kernel_rfl) (by kernel_rfl)
theorem fact648 (P:Params):FQ P 648:=zqb (d:=topD 66) (by kernel_rfl) rfl rfl rfl (by kernel_rfl) (by kernel_rfl) (by kernel_rfl)
theorem fact653 (P:Params):FQ P 653:=zqb (d:=topD 67) (by kernel_rfl) rfl rfl rfl (by kernel_rfl) (by kernel_rfl) (by kernel_rfl)
theorem fact673 (P:Params):FQ P 673:=zqb (d:=topD 72) (by kernel_rfl) rfl rfl rfl (by kernel_rfl) (by kernel_rfl) (by kernel_rfl)
theorem fact680 (P:Params):FQ P 680:=zqb (d:=topD 73) (by kernel_rfl) rfl rfl rfl (by kernel_rfl) (by kernel_rfl) (by kernel_rfl)
theorem fact687 (P:Params):FQ P 687:=zqb (d:=topD 74) (by kernel_rfl) rfl rfl rfl (by kernel_rfl) (by kernel_rfl) (by kernel_rfl)
theorem fact694 (P:Params):FQ P 694:=zqb (d:=topD 75) (by kernel_rfl) rfl rfl rfl (by kernel_rfl) (by kernel_rfl) (by kernel_rfl)
theorem fact708 (P:Params):FQ P 708:=zqb (d:=topD 77) (by kernel_rfl) rfl rfl rfl (by kernel_rfl) (by kernel_rfl) (by kernel_rfl)
theorem fact715 (P:Params):FQ P 715:=zqb (d:=topD 78) (by kernel_rfl) rfl rfl rfl (by kernel_rfl) (by kernel_rfl) (by kernel_rfl)
theorem fact722 (P:Params):FQ P 722:=zqb (d:=topD 79) (by kernel_rfl) rfl rfl rfl (by kernel_rfl) (by kernel_rfl) (by kernel_rfl)
theorem fact729 (P:Params):FQ P 729:=zqb (d:=topD 80) (by kernel_rfl) rfl rfl rfl (by kernel_rfl) (by kernel_rfl) (by kernel_rfl)
theorem fact736 (P:Params):FQ P 736:=zqb (d:=topD 81) (by kernel_rfl) rfl rfl rfl (by kernel_rfl) (by kernel_rfl) (by kernel_rfl)
theorem fact743 (P:Params):FQ P 743:=zqb (d:=topD 82) (by kernel_rfl) rfl rfl rfl (by kernel_rfl) (by kernel_rfl) (by kernel_rfl)
theorem fact748 (P:Params):FQ P 748:=zqb (d:=topD 83) (by kernel_rfl) rfl rfl rfl (by kernel_rfl) (by kernel_rfl) (by kernel_rfl)
end
section
open PySem.Builtin.Str (occurrences subAt)
noncomputable def preL (a:List Nat):List Nat→Bool:=List.rec (λ _=>true) (λ a _ ih b=>List.rec false (λ b r _=>cd (Nat.beq a b) (ih r) false) b) a
noncomputable def hasL (y:List Nat) (x:List Nat):Bool:=List.rec (preL y []) (λ a x ih=>cd (preL y (a::x)) true ih) x
theorem preL_iff (y:List Nat):∀ x:List Nat,preL y x=true ↔ x.take y.length=y:=by
 induction y with
 | nil=>intro x;simp [preL]
 | cons a l ih=>
  intro x
  cases x with
  | nil=>simp [preL]
  | cons b r=>
   show cd (Nat.beq a b) (preL l r) false=true ↔ _
   cases q:Nat.beq a b with
   | true=>rw [Nat.eq_of_beq_eq_true q,List.length_cons,List.take_succ_cons];exact ⟨λ h=>congrArg (b::·) ((ih r).mp h),λ h=>(ih r).mpr (List.cons.inj h).2⟩
   | false=>exact ⟨λ h=>(nomatch h),λ h=>absurd (List.cons.inj h).1.symm (Nat.ne_of_beq_eq_false q)⟩
theorem hasL_iff (y x:List Nat):hasL y x=true ↔ ∃ i,i + y.length≤x.length∧(x.drop i).take y.length=y:=by
 have fits:∀ x:List Nat,x.take y.length=y→y.length≤x.length:=λ x h=>by
  have:=congrArg List.length h
  rw [List.length_take] at this
  exact this▸Nat.min_le_right _ _
 induction x with
 | nil=>
  show preL y []=true ↔ _
  rw [preL_iff]
  exact ⟨λ h=>⟨0,by rw [Nat.zero_add];exact fits _ h,h⟩,λ ⟨i,_,h⟩=>by rwa [List.drop_nil] at h⟩
 | cons a x ih=>
  show cd (preL y (a::x)) true (hasL y x)=true ↔ _
  cases q:preL y (a::x) with
  | true=>
   have h:=(preL_iff _ _).mp q
   exact ⟨λ _=>⟨0,by rw [Nat.zero_add];exact fits _ h,h⟩,λ _=>rfl⟩
  | false=>
   refine Iff.trans ih ⟨λ ⟨i,h1,h2⟩=>⟨i + 1,by rw [List.length_cons,Nat.add_right_comm];exact Nat.succ_le_succ h1,h2⟩,λ ⟨i,h1,h2⟩=>?_⟩
   cases i with
   | zero=>exact nomatch ((preL_iff _ (a::x)).mpr h2).symm.trans q
   | succ i=>exact ⟨i,by rw [List.length_cons,Nat.add_right_comm] at h1;exact Nat.le_of_succ_le_succ h1,h2⟩
theorem occ_has (x y:Str):(!(occurrences x y 0 x.length 1).isEmpty)=hasL y.cps.toList x.cps.toList:=by
 have key:∀ i,StrLaws.At x y x.length i ↔ (i + y.cps.toList.length≤x.cps.toList.length∧(x.cps.toList.drop i).take y.cps.toList.length=y.cps.toList):=λ i=>by
  unfold StrLaws.At subAt
  have e:(x.cps.extract i (i + y.length) == y.cps)=true ↔ (x.cps.toList.drop i).take y.cps.toList.length=y.cps.toList:=by
   rw [beq_iff_eq,← Array.toList_inj,Array.toList_extract,List.extract_eq_drop_take]
   simp [Str.length]
  rw [e];simp [Str.length]
 rw [Bool.eq_iff_iff,hasL_iff]
 rcases StrLaws.occ_head x y 1 (Nat.le_refl 1) with ⟨h0,hn⟩ | ⟨i,r,h0,ha,_⟩
 ·rw [h0];simp only [List.isEmpty_nil,Bool.not_true,Bool.false_eq_true,false_iff]
  rintro ⟨i,h⟩;exact hn i ((key i).mpr h)
 ·rw [h0];simp only [List.isEmpty_cons,Bool.not_false,true_iff]
  exact ⟨i,(key i).mp ha⟩
noncomputable def bEq (a b:Bool):Bool:=cd a b (!b)
noncomputable def allHas (l:List Nat) (t:List (Str × Bool)):Bool:=List.rec true (λ p _ ih=>cd (bEq (hasL p.1.cps.toList l) p.2) ih false) t
theorem allHas_sound {l:List Nat}{t:List (Str × Bool)}(h:allHas l t=true):AllL (λ p:Str × Bool=>hasL p.1.cps.toList l=p.2) t:=by
 induction t with
 | nil=>trivial
 | cons p r ih=>
  have h:cd (bEq (hasL p.1.cps.toList l) p.2) (allHas l r) false=true:=h
  cases q:bEq (hasL p.1.cps.toList l) p.2 with
  | false=>rw [q] at h;cases h
  | true=>
   rw [q] at h
   refine ⟨?_,ih h⟩
   revert q
   show _→hasL p.1.cps.toList l=p.2
   cases hasL p.1.cps.toList l<;>cases p.2<;>first | exact λ _=>rfl | exact λ q=>Bool.noConfusion q
theorem resL:∃ l:List Char,zq9=Str.ofString (String.ofList l)∧allHas (l.map Char.toNat) resTab=true:=by
 refine ⟨_,rfl,?_⟩;kernel_rfl
theorem res_all:AllL (λ p:Str × Bool=>hasL p.1.cps.toList zq9.cps.toList=p.2) resTab:=by
 obtain ⟨l,e,h⟩:=resL
 rw [e,PySem.W.Fast.ofString_ofList]
 exact allHas_sound h
theorem fig_all:AllL (λ p:Str × Bool=>hasL p.1.cps.toList figs.cps.toList=p.2) figTab:=by
 refine ⟨?_,?_,?_,?_,?_,?_,?_,?_,?_,?_,?_,?_,?_,?_,?_,?_,?_,?_,?_,?_,?_,?_,?_,trivial⟩<;>kernel_rfl
theorem split_all:AllL (λ p:Str × List Str=>Txt.split p.1 " " = p.2) splitTab:=by
 refine ⟨?_,?_,?_,?_,?_,?_,?_,?_,?_,?_,?_,?_,?_,?_,?_,?_,?_,?_,?_,?_,?_,trivial⟩<;>kernel_rfl
theorem facts (P:Params):zqr (KF P) P out where
 glob x a h:=(glob_all P).mem (a:=(x,a)) (zxv h)
 attr c n h:=(attr_q P h).1
 set c n h:=(attr_q P h).2
 within x y b h:=gd_q (b:=sB y figs) (x:=zqm x figTab) h λ q h=>by
  rw [zqo.mp q,occ_has]
  exact fig_all.mem (a:=(x,b)) (zxv h)
 res x b h:=by rw [occ_has];exact res_all.mem (a:=(x,b)) (zxv h)
 split x l h:=split_all.mem (a:=(x,l)) (zxv h)
 dict d l h:=(dict_all P).mem (a:=(d,l)) (zzc h)
end
section
theorem fn_all (P:Params):AllL (λ p=>∀ fd,out.fn p.1=some fd→zqw (KF P) P p.1 fd) fnTab:=⟨fact491 P,fact483 P,fact442 P,fact139 P,fact250 P,fact384 P,fact520 P,fact563 P,fact585 P,fact29 P,fact36 P,fact50 P,fact64 P,fact71 P,fact94 P,fact174 P,fact181 P,fact188 P,fact195 P,fact202 P,fact209 P,fact216 P,fact223 P,fact230 P,fact237 P,fact257 P,fact264 P,fact271 P,fact278 P,fact292 P,fact299 P,fact306 P,fact313 P,fact320 P,fact327 P,fact334 P,fact341 P,fact348 P,fact355 P,fact362 P,fact369 P,fact391 P,fact398 P,fact405 P,fact412 P,fact419 P,fact426 P,fact463 P,fact505 P,fact512 P,fact527 P,fact534 P,fact541 P,fact548 P,fact570 P,fact592 P,fact599 P,fact606 P,fact613 P,fact648 P,fact653 P,fact673 P,fact680 P,fact687 P,fact694 P,fact708 P,fact715 P,fact722 P,fact729 P,fact736 P,fact743 P,fact748 P,trivial⟩
theorem keep_491 (P:Params):keepIn (KF P) (.ref 491)=true:=by kernel_rfl
theorem keep_483 (P:Params):keepIn (KF P) (.ref 483)=true:=by kernel_rfl
theorem keep_442 (P:Params):keepIn (KF P) (.ref 442)=true:=by kernel_rfl
theorem keep_139 (P:Params):keepIn (KF P) (.ref 139)=true:=by kernel_rfl
theorem keep_250 (P:Params):keepIn (KF P) (.ref 250)=true:=by kernel_rfl
theorem keep_384 (P:Params):keepIn (KF P) (.ref 384)=true:=by kernel_rfl
theorem keep_520 (P:Params):keepIn (KF P) (.ref 520)=true:=by kernel_rfl
theorem keep_563 (P:Params):keepIn (KF P) (.ref 563)=true:=by kernel_rfl
theorem keep_585 (P:Params):keepIn (KF P) (.ref 585)=true:=by kernel_rfl
theorem keep_29 (P:Params):keepIn (KF P) (.ref 29)=true:=by kernel_rfl
theorem keep_36 (P:Params):keepIn (KF P) (.ref 36)=true:=by kernel_rfl
theorem keep_50 (P:Params):keepIn (KF P) (.ref 50)=true:=by kernel_rfl
theorem keep_64 (P:Params):keepIn (KF P) (.ref 64)=true:=by kernel_rfl
theorem keep_71 (P:Params):keepIn (KF P) (.ref 71)=true:=by kernel_rfl
theorem keep_94 (P:Params):keepIn (KF P) (.ref 94)=true:=by kernel_rfl
theorem keep_174 (P:Params):keepIn (KF P) (.ref 174)=true:=by kernel_rfl
theorem keep_181 (P:Params):keepIn (KF P) (.ref 181)=true:=by kernel_rfl
theorem keep_188 (P:Params):keepIn (KF P) (.ref 188)=true:=by kernel_rfl
theorem keep_195 (P:Params):keepIn (KF P) (.ref 195)=true:=by kernel_rfl
theorem keep_202 (P:Params):keepIn (KF P) (.ref 202)=true:=by kernel_rfl
theorem keep_209 (P:Params):keepIn (KF P) (.ref 209)=true:=by kernel_rfl
theorem keep_216 (P:Params):keepIn (KF P) (.ref 216)=true:=by kernel_rfl
theorem keep_223 (P:Params):keepIn (KF P) (.ref 223)=true:=by kernel_rfl
theorem keep_230 (P:Params):keepIn (KF P) (.ref 230)=true:=by kernel_rfl
theorem keep_237 (P:Params):keepIn (KF P) (.ref 237)=true:=by kernel_rfl
theorem keep_257 (P:Params):keepIn (KF P) (.ref 257)=true:=by kernel_rfl
theorem keep_264 (P:Params):keepIn (KF P) (.ref 264)=true:=by kernel_rfl
theorem keep_271 (P:Params):keepIn (KF P) (.ref 271)=true:=by kernel_rfl
theorem keep_278 (P:Params):keepIn (KF P) (.ref 278)=true:=by kernel_rfl
theorem keep_292 (P:Params):keepIn (KF P) (.ref 292)=true:=by kernel_rfl
theorem keep_299 (P:Params):keepIn (KF P) (.ref 299)=true:=by kernel_rfl
theorem keep_306 (P:Params):keepIn (KF P) (.ref 306)=true:=by kernel_rfl
theorem keep_313 (P:Params):keepIn (KF P) (.ref 313)=true:=by kernel_rfl
theorem keep_320 (P:Params):keepIn (KF P) (.ref 320)=true:=by kernel_rfl
theorem keep_327 (P:Params):keepIn (KF P) (.ref 327)=true:=by kernel_rfl
theorem keep_334 (P:Params):keepIn (KF P) (.ref 334)=true:=by kernel_rfl
theorem keep_341 (P:Params):keepIn (KF P) (.ref 341)=true:=by kernel_rfl
theorem keep_348 (P:Params):keepIn (KF P) (.ref 348)=true:=by kernel_rfl
theorem keep_355 (P:Params):keepIn (KF P) (.ref 355)=true:=by kernel_rfl
theorem keep_362 (P:Params):keepIn (KF P) (.ref 362)=true:=by kernel_rfl
theorem keep_369 (P:Params):keepIn (KF P) (.ref 369)=true:=by kernel_rfl
theorem keep_391 (P:Params):keepIn (KF P) (.ref 391)=true:=by kernel_rfl
theorem keep_398 (P:Params):keepIn (KF P) (.ref 398)=true:=by kernel_rfl
theorem keep_405 (P:Params):keepIn (KF P) (.ref 405)=true:=by kernel_rfl
theorem keep_412 (P:Params):keepIn (KF P) (.ref 412)=true:=by kernel_rfl
theorem keep_419 (P:Params):keepIn (KF P) (.ref 419)=true:=by kernel_rfl
theorem keep_426 (P:Params):keepIn (KF P) (.ref 426)=true:=by kernel_rfl
theorem keep_463 (P:Params):keepIn (KF P) (.ref 463)=true:=by kernel_rfl
theorem keep_505 (P:Params):keepIn (KF P) (.ref 505)=true:=by kernel_rfl
theorem keep_512 (P:Params):keepIn (KF P) (.ref 512)=true:=by kernel_rfl
theorem keep_527 (P:Params):keepIn (KF P) (.ref 527)=true:=by kernel_rfl
theorem keep_534 (P:Params):keepIn (KF P) (.ref 534)=true:=by kernel_rfl
theorem keep_541 (P:Params):keepIn (KF P) (.ref 541)=true:=by kernel_rfl
theorem keep_548 (P:Params):keepIn (KF P) (.ref 548)=true:=by kernel_rfl
theorem keep_570 (P:Params):keepIn (KF P) (.ref 570)=true:=by kernel_rfl
theorem keep_592 (P:Params):keepIn (KF P) (.ref 592)=true:=by kernel_rfl
theorem keep_599 (P:Params):keepIn (KF P) (.ref 599)=true:=by kernel_rfl
theorem keep_606 (P:Params):keepIn (KF P) (.ref 606)=true:=by kernel_rfl
theorem keep_613 (P:Params):keepIn (KF P) (.ref 613)=true:=by kernel_rfl
theorem keep_648 (P:Params):keepIn (KF P) (.ref 648)=true:=by kernel_rfl
theorem keep_653 (P:Params):keepIn (KF P) (.ref 653)=true:=by kernel_rfl
theorem keep_673 (P:Params):keepIn (KF P) (.ref 673)=true:=by kernel_rfl
theorem keep_680 (P:Params):keepIn (KF P) (.ref 680)=true:=by kernel_rfl
theorem keep_687 (P:Params):keepIn (KF P) (.ref 687)=true:=by kernel_rfl
theorem keep_694 (P:Params):keepIn (KF P) (.ref 694)=true:=by kernel_rfl
theorem keep_708 (P:Params):keepIn (KF P) (.ref 708)=true:=by kernel_rfl
theorem keep_715 (P:Params):keepIn (KF P) (.ref 715)=true:=by kernel_rfl
theorem keep_722 (P:Params):keepIn (KF P) (.ref 722)=true:=by kernel_rfl
theorem keep_729 (P:Params):keepIn (KF P) (.ref 729)=true:=by kernel_rfl
theorem keep_736 (P:Params):keepIn (KF P) (.ref 736)=true:=by kernel_rfl
theorem keep_743 (P:Params):keepIn (KF P) (.ref 743)=true:=by kernel_rfl
theorem keep_748 (P:Params):keepIn (KF P) (.ref 748)=true:=by kernel_rfl
theorem keep_372 (P:Params):keepIn (KF P) (.ref 372)=true:=by kernel_rfl
theorem keep_452 (P:Params):keepIn (KF P) (.ref 452)=true:=by kernel_rfl
theorem keep_637 (P:Params):keepIn (KF P) (.ref 637)=true:=by kernel_rfl
theorem keep_122 (P:Params):keepIn (KF P) (.ref 122)=true:=by kernel_rfl
theorem keep_fn (P:Params):AllL (λ p=>keepIn (KF P) (.ref p.1)=true) fnTab:=⟨keep_491 P,keep_483 P,keep_442 P,keep_139 P,keep_250 P,keep_384 P,keep_520 P,keep_563 P,keep_585 P,keep_29 P,keep_36 P,keep_50 P,keep_64 P,keep_71 P,keep_94 P,keep_174 P,keep_181 P,keep_188 P,keep_195 P,keep_202 P,keep_209 P,keep_216 P,keep_223 P,keep_230 P,keep_237 P,keep_257 P,keep_264 P,keep_271 P,keep_278 P,keep_292 P,keep_299 P,keep_306 P,keep_313 P,keep_320 P,keep_327 P,keep_334 P,keep_341 P,keep_348 P,keep_355 P,keep_362 P,keep_369 P,keep_391 P,keep_398 P,keep_405 P,keep_412 P,keep_419 P,keep_426 P,keep_463 P,keep_505 P,keep_512 P,keep_527 P,keep_534 P,keep_541 P,keep_548 P,keep_570 P,keep_592 P,keep_599 P,keep_606 P,keep_613 P,keep_648 P,keep_653 P,keep_673 P,keep_680 P,keep_687 P,keep_694 P,keep_708 P,keep_715 P,keep_722 P,keep_729 P,keep_736 P,keep_743 P,keep_748 P,trivial⟩
theorem keep_prim (P:Params):AllL (λ a=>keepIn (KF P) (.ref a)=true) primTab:=⟨keep_122 P,keep_181 P,keep_648 P,keep_372 P,keep_452 P,keep_637 P,trivial⟩
noncomputable def zqz (K:Frag) (c:Nat) (p:Str × Nat):Prop:=(plainGet K c p.1=true∧findIn K (.ref c) p.1=some (some (.ref p.2))∧isFn K (.ref p.2)=true)∧(Nat.beq c 637=true→zxc p.1 ["tokens", "at", "named"]=false)
theorem meth_372_0 (P:Params):zqz (KF P) 372 ("__init__",292):=⟨⟨by kernel_rfl,by kernel_rfl,by kernel_rfl⟩,λ _=>by kernel_rfl⟩
theorem meth_372_1 (P:Params):zqz (KF P) 372 ("either",299):=⟨⟨by kernel_rfl,by kernel_rfl,by kernel_rfl⟩,λ _=>by kernel_rfl⟩
theorem meth_372_2 (P:Params):zqz (KF P) 372 ("both",306):=⟨⟨by kernel_rfl,by kernel_rfl,by kernel_rfl⟩,λ _=>by kernel_rfl⟩
theorem meth_372_3 (P:Params):zqz (KF P) 372 ("turned",313):=⟨⟨by kernel_rfl,by kernel_rfl,by kernel_rfl⟩,λ _=>by kernel_rfl⟩
theorem meth_372_4 (P:Params):zqz (KF P) 372 ("single",320):=⟨⟨by kernel_rfl,by kernel_rfl,by kernel_rfl⟩,λ _=>by kernel_rfl⟩
theorem meth_372_5 (P:Params):zqz (KF P) 372 ("unbracketed",327):=⟨⟨by kernel_rfl,by kernel_rfl,by kernel_rfl⟩,λ _=>by kernel_rfl⟩
theorem meth_372_6 (P:Params):zqz (KF P) 372 ("in_brackets",334):=⟨⟨by kernel_rfl,by kernel_rfl,by kernel_rfl⟩,λ _=>by kernel_rfl⟩
theorem meth_372_7 (P:Params):zqz (KF P) 372 ("subject_of_last",341):=⟨⟨by kernel_rfl,by kernel_rfl,by kernel_rfl⟩,λ _=>by kernel_rfl⟩
theorem meth_372_8 (P:Params):zqz (KF P) 372 ("sign_of_last",348):=⟨⟨by kernel_rfl,by kernel_rfl,by kernel_rfl⟩,λ _=>by kernel_rfl⟩
theorem meth_372_9 (P:Params):zqz (KF P) 372 ("predicate",355):=⟨⟨by kernel_rfl,by kernel_rfl,by kernel_rfl⟩,λ _=>by kernel_rfl⟩
theorem meth_372_10 (P:Params):zqz (KF P) 372 ("relation",362):=⟨⟨by kernel_rfl,by kernel_rfl,by kernel_rfl⟩,λ _=>by kernel_rfl⟩
theorem meth_372_11 (P:Params):zqz (KF P) 372 ("sign_here",369):=⟨⟨by kernel_rfl,by kernel_rfl,by kernel_rfl⟩,λ _=>by kernel_rfl⟩
theorem meth_637_0 (P:Params):zqz (KF P) 637 ("__init__",483):=⟨⟨by kernel_rfl,by kernel_rfl,by kernel_rfl⟩,λ _=>by kernel_rfl⟩
theorem meth_637_1 (P:Params):zqz (KF P) 637 ("peek",491):=⟨⟨by kernel_rfl,by kernel_rfl,by kernel_rfl⟩,λ _=>by kernel_rfl⟩
theorem meth_637_2 (P:Params):zqz (KF P) 637 ("fault",505):=⟨⟨by kernel_rfl,by kernel_rfl,by kernel_rfl⟩,λ _=>by kernel_rfl⟩
theorem meth_637_3 (P:Params):zqz (KF P) 637 ("take",512):=⟨⟨by kernel_rfl,by kernel_rfl,by kernel_rfl⟩,λ _=>by kernel_rfl⟩
theorem meth_637_4 (P:Params):zqz (KF P) 637 ("is_kind",520):=⟨⟨by kernel_rfl,by kernel_rfl,by kernel_rfl⟩,λ _=>by kernel_rfl⟩
theorem meth_637_5 (P:Params):zqz (KF P) 637 ("is_word",527):=⟨⟨by kernel_rfl,by kernel_rfl,by kernel_rfl⟩,λ _=>by kernel_rfl⟩
theorem meth_637_6 (P:Params):zqz (KF P) 637 ("skip",534):=⟨⟨by kernel_rfl,by kernel_rfl,by kernel_rfl⟩,λ _=>by kernel_rfl⟩
theorem meth_637_7 (P:Params):zqz (KF P) 637 ("need",541):=⟨⟨by kernel_rfl,by kernel_rfl,by kernel_rfl⟩,λ _=>by kernel_rfl⟩
theorem meth_637_8 (P:Params):zqz (KF P) 637 ("one_of",548):=⟨⟨by kernel_rfl,by kernel_rfl,by kernel_rfl⟩,λ _=>by kernel_rfl⟩
theorem meth_637_9 (P:Params):zqz (KF P) 637 ("is_name",563):=⟨⟨by kernel_rfl,by kernel_rfl,by kernel_rfl⟩,λ _=>by kernel_rfl⟩
theorem meth_637_10 (P:Params):zqz (KF P) 637 ("name",570):=⟨⟨by kernel_rfl,by kernel_rfl,by kernel_rfl⟩,λ _=>by kernel_rfl⟩
theorem meth_637_11 (P:Params):zqz (KF P) 637 ("is_sign",585):=⟨⟨by kernel_rfl,by kernel_rfl,by kernel_rfl⟩,λ _=>by kernel_rfl⟩
theorem meth_637_12 (P:Params):zqz (KF P) 637 ("skip_sign",592):=⟨⟨by kernel_rfl,by kernel_rfl,by kernel_rfl⟩,λ _=>by kernel_rfl⟩
theorem meth_637_13 (P:Params):zqz (KF P) 637 ("need_sign",599):=⟨⟨by kernel_rfl,by kernel_rfl,by kernel_rfl⟩,λ _=>by kernel_rfl⟩
theorem meth_637_14 (P:Params):zqz (KF P) 637 ("is_number",606):=⟨⟨by kernel_rfl,by kernel_rfl,by kernel_rfl⟩,λ _=>by kernel_rfl⟩
theorem meth_637_15 (P:Params):zqz (KF P) 637 ("signed",613):=⟨⟨by kernel_rfl,by kernel_rfl,by kernel_rfl⟩,λ _=>by kernel_rfl⟩
theorem meth_all (P:Params):AllL (λ p:Nat × List (Str × Nat)=>AllL (zqz (KF P) p.1) p.2) methTab:=⟨⟨meth_372_0 P,meth_372_1 P,meth_372_2 P,meth_372_3 P,meth_372_4 P,meth_372_5 P,meth_372_6 P,meth_372_7 P,meth_372_8 P,meth_372_9 P,meth_372_10 P,meth_372_11 P,trivial⟩,⟨meth_637_0 P,meth_637_1 P,meth_637_2 P,meth_637_3 P,meth_637_4 P,meth_637_5 P,meth_637_6 P,meth_637_7 P,meth_637_8 P,meth_637_9 P,meth_637_10 P,meth_637_11 P,meth_637_12 P,meth_637_13 P,meth_637_14 P,meth_637_15 P,trivial⟩,trivial⟩
theorem meth_q (P:Params) {c:Nat}{n:Str}{f:Nat}(h:out.meth c n=some f):zqz (KF P) c (n,f):=by
 exact bd_q h λ l h1 h2=>((meth_all P).mem (a:=(c,l)) (zzc h1)).mem (a:=(n,f)) (zxv h2)
theorem memN_mem {a:Nat}{l:List Nat}(h:memN a l=true):a∈l:=by
 induction l with
 | nil=>cases h
 | cons b l ih=>
  have h:cd (Nat.beq b a) true (memN a l)=true:=h
  cases q:Nat.beq b a with
  | true=>rw [← Nat.eq_of_beq_eq_true q];exact List.mem_cons_self ..
  | false=>rw [q] at h;exact List.mem_cons_of_mem _ (ih h)
theorem zje (P:Params):zxf (KF P) P out where
 fn a fd h:=by
  have h':∃ x,zj6 a fnTab=some x:=by
   cases q:zj6 a fnTab with
   | none=>have h:mp _ (zj6 a fnTab)=some fd:=h;rw [q] at h;cases h
   | some x=>exact ⟨x,rfl⟩
  obtain ⟨x,hx⟩:=h'
  exact (fn_all P).mem (a:=(a,x)) (zzc hx) fd h
 init a i h:=by
  refine cd_q h (λ q h=>?_) λ _ h=>cd_q h (λ q h=>?_) λ _ h=>gd_q h λ q h=>?_
  ·rw [Nat.eq_of_beq_eq_true q,← Option.some.inj h];exact ⟨by kernel_rfl,by kernel_rfl,by kernel_rfl⟩
  ·rw [Nat.eq_of_beq_eq_true q,← Option.some.inj h];exact ⟨by kernel_rfl,by kernel_rfl,by kernel_rfl⟩
  ·rw [Nat.eq_of_beq_eq_true q,← Option.some.inj h];exact ⟨by kernel_rfl,by kernel_rfl,by kernel_rfl⟩
 can a h:=by
  have h:(Option.rec (memN a primTab) (λ _=>true) (zj6 a fnTab):Bool)=true:=h
  cases q:zj6 a fnTab with
  | none=>rw [q] at h;exact (keep_prim P).mem (memN_mem h)
  | some x=>exact (keep_fn P).mem (a:=(a,x)) (zzc q)
 meth c n f h:=(meth_q P h).1
 rdr n f h:=(meth_q P h).2 rfl
theorem factsX (P:Params):FactsX (KF P):=⟨_,_,_,_,_,_,_,_,_,_,_,_,_,_,_,_,_,rfl,by decide,by decide⟩
theorem factsF (P:Params):FactsF (KF P) where
 cls:=⟨_,rfl,rfl,rfl⟩
 set:=by kernel_rfl
 what:=by kernel_rfl
 at_:=by kernel_rfl
theorem factsI (P:Params):FactsI (KF P) P where
 FF:=factsF P
 ex:=⟨_,_,_,_,_,_,_,_,_,_,_,_,rfl,by kernel_rfl,λ v1 v2 v3 S=>by kernel_rfl⟩
 exc:=by kernel_rfl
 ini:=by kernel_rfl
 cls:=⟨_,_,_,_,_,_,_,_,_,_,_,_,_,_,_,rfl⟩
 ifn:=by kernel_rfl
 isf:=by kernel_rfl
theorem rangeF (P:Params):nsIn (KF P) mainGlobals "range" = some none:=by kernel_rfl
end
section
theorem fun181 (P:Params):(KF P).lookup 181=some ⟨.type "function",none,.func (by refine' (?f:∀ n a b sc,topD 24=(n,a,b,sc)→FuncData) _ _ _ _ ?h;exact λ _ a b sc _=>fnOf "read_decimal" "read_decimal" a b sc .none .none .none (.str "ledgerspeak.decimals" 370) none (.ref 180) .none;case h=>conv=>lhs;whnf),#[]⟩:=by kernel_rfl
theorem fun174 (P:Params):(KF P).lookup 174=some ⟨.type "function",none,.func (by refine' (?f:∀ n a b sc,topD 23=(n,a,b,sc)→FuncData) _ _ _ _ ?h;exact λ _ a b sc _=>fnOf "worth_of" "worth_of" a b sc .none .none .none (.str "ledgerspeak.decimals" 370) none (.ref 173) .none;case h=>conv=>lhs;whnf),#[]⟩:=by kernel_rfl
theorem fun139 (P:Params):(KF P).lookup 139=some ⟨.type "function",none,.func (by refine' (?f:∀ n a b sc,topD 18=(n,a,b,sc)→FuncData) _ _ _ _ ?h;exact λ _ a b sc _=>fnOf "decimal" "decimal" a b sc (.ref 132) .none .none (.str "ledgerspeak.decimals" 370) none (.ref 138) .none;case h=>conv=>lhs;whnf),#[]⟩:=by kernel_rfl
theorem nsFIG (P:Params):nsIn (KF P) mainGlobals "FIGURES" = some (some (.str "0123456789" 372)):=by kernel_rfl
theorem nsW (P:Params):nsIn (KF P) mainGlobals "worth_of" = some (some (.ref 174)):=by kernel_rfl
theorem nsD (P:Params):nsIn (KF P) mainGlobals "decimal" = some (some (.ref 139)):=by kernel_rfl
theorem nsR (P:Params):nsIn (KF P) mainGlobals "range" = some none:=by kernel_rfl
section
variable {M:Model}{prog:Program}{w:World}{A:Around}{E:Value→Shared→Prop}{s:Shared}
theorem in_lit {x y:Str}{t u:Tok}{b:Bool}{Q:Value→Shared→Prop}(e:(!(Builtin.Str.occurrences y x 0 y.length 1).isEmpty)=b) (h:Q (.bool b) s):wpAny (model prog w) A (compareOp .In (.str x t) (.str y u)) Q E s:=by
 subst e;exact P.in_str h
theorem zz9 {x y:Str}{t u:Tok}{b:Bool}{Q:Value→Shared→Prop}(e:(!(Builtin.Str.occurrences y x 0 y.length 1).isEmpty)=b) (h:Q (.bool !b) s):wpAny (model prog w) A (compareOp .NotIn (.str x t) (.str y u)) Q E s:=by
 subst e;exact P.notIn_str h
end
end
section
local macro_rules | `(tactic| walk_at "compareOp In str str")=>`(tactic| first | refine in_lit (b:=true) (by decide +kernel) ?_ | refine in_lit (b:=false) (by decide +kernel) ?_)
local macro_rules | `(tactic| walk_at "compareOp NotIn str str")=>`(tactic| first | refine zz9 (b:=true) (by decide +kernel) ?_ | refine zz9 (b:=false) (by decide +kernel) ?_)
local macro_rules | `(tactic| k_room)=>`(tactic| ((try simp only [depth_under_make,depth_under_kw,depth_in1,depth_deeper,depth_caller,recursionLimit]);omega))
local macro_rules | `(tactic| k_is)=>`(tactic| first | exact fun181 _ | exact fun174 _ | exact fun139 _ | exact nsFIG _ | exact nsW _ | exact nsD _ | exact nsR _ | (k_whole;decide +kernel) | exact rfl)
theorem worth_no1 (x:Str) (hx:x∈signs (Str.ofString "1")) (h:(Builtin.Str.occurrences (Str.ofString "0123456789") x 0 (Str.ofString "0123456789").length 1).isEmpty=true):False:=by
 have hs:signs (Str.ofString "1")=[Str.ofString "1"]:=by decide +kernel
 rw [hs] at hx
 cases List.mem_singleton.mp hx
 revert h;decide +kernel
theorem worth_1 (w:World) {cn:Str}{sc:Scope}{fa:Addr}{ccd:Value}{ccl:List (Str × Addr)}{outer:List Env}{dp un:Nat}{gd:Option (List Code)}{A₀:Around}{base h₀:Heap}{s:Shared}{L:Addr}{m:Str→Option Value}{led:Led}{mean:ExcName→Option Value}{p:Program}{loose:List Str}{mg mb:Str→Option Value}{t:Tok}
  {R:Result→Shared→Prop}(B:Below A₀ base outer h₀) (X:(KF w.params).In h₀) (T:Top p loose mean mg mb h₀) (F:Fr h₀ L s.heap m) (N:News h₀ L s.heap led)
  (hk:sc.kind=.function) (hd:dp + 50 < 1000) (hu:un + 50 < 9700)
  (hR:∀ h' tk u,Fr h₀ L h' m→News h₀ L h' led→R (.ok (.ret (.int 1 u))) { s with heap:=h',toks:=tk }):codeAny (model pw_pc0148_01 w) ⟨none,dp,some (envX cn sc L fa ccd ccl::outer),gd,un⟩ (.call (.ref 174) ⟨[.str "1" t],[]⟩) R s:=by
 obtain ⟨hp,gs,dr,tk0,os⟩:=s
 dsimp only at F N hR
 obtain ⟨k,names,b1,b2,fr0⟩:=sc
 obtain rfl:k=.function:=hk
 k_enter
 k_steps
 rotate_left 2
 ·rename_i x y;exact x * 10 + Txt.find "0123456789" y
 ·(with_reducible rename Fr _ _ _ _=>kF)
  with_unfolding_all refine guard_global (by rfl) ?_
  k_dflt (refine' name_K kF ?k1 ?k2 ?k3 ?_)
  case k1=>k_asm
  case k2=>k_asm
  case k3=>exact nsFIG _
  k_steps
  ·exact (worth_no1 _ (by assumption) (by assumption)).elim
 ·dsimp only
  k_steps
  have e:List.foldl (λ a a_1=>a * 10 + Txt.find (Str.ofString "0123456789") a_1) 0 (signs (Str.ofString "1"))=1:=by decide +kernel
  rw [e]
  exact hR _ _ _ (by assumption) (by assumption)
theorem worth_no2 (x:Str) (hx:x∈signs (Str.ofString "2")) (h:(Builtin.Str.occurrences (Str.ofString "0123456789") x 0 (Str.ofString "0123456789").length 1).isEmpty=true):False:=by
 have hs:signs (Str.ofString "2")=[Str.ofString "2"]:=by decide +kernel
 rw [hs] at hx
 cases List.mem_singleton.mp hx
 revert h;decide +kernel
theorem worth_2 (w:World) {cn:Str}{sc:Scope}{fa:Addr}{ccd:Value}{ccl:List (Str × Addr)}{outer:List Env}{dp un:Nat}{gd:Option (List Code)}{A₀:Around}{base h₀:Heap}{s:Shared}{L:Addr}{m:Str→Option Value}{led:Led}{mean:ExcName→Option Value}{p:Program}{loose:List Str}{mg mb:Str→Option Value}{t:Tok}
  {R:Result→Shared→Prop}(B:Below A₀ base outer h₀) (X:(KF w.params).In h₀) (T:Top p loose mean mg mb h₀) (F:Fr h₀ L s.heap m) (N:News h₀ L s.heap led)
  (hk:sc.kind=.function) (hd:dp + 50 < 1000) (hu:un + 50 < 9700)
  (hR:∀ h' tk u,Fr h₀ L h' m→News h₀ L h' led→R (.ok (.ret (.int 2 u))) { s with heap:=h',toks:=tk }):codeAny (model pw_pc0148_01 w) ⟨none,dp,some (envX cn sc L fa ccd ccl::outer),gd,un⟩ (.call (.ref 174) ⟨[.str "2" t],[]⟩) R s:=by
 obtain ⟨hp,gs,dr,tk0,os⟩:=s
 dsimp only at F N hR
 obtain ⟨k,names,b1,b2,fr0⟩:=sc
 obtain rfl:k=.function:=hk
 k_enter
 k_steps
 rotate_left 2
 ·rename_i x y;exact x * 10 + Txt.find "0123456789" y
 ·(with_reducible rename Fr _ _ _ _=>kF)
  with_unfolding_all refine guard_global (by rfl) ?_
  k_dflt (refine' name_K kF ?k1 ?k2 ?k3 ?_)
  case k1=>k_asm
  case k2=>k_asm
  case k3=>exact nsFIG _
  k_steps
  ·exact (worth_no2 _ (by assumption) (by assumption)).elim
 ·dsimp only
  k_steps
  have e:List.foldl (λ a a_1=>a * 10 + Txt.find (Str.ofString "0123456789") a_1) 0 (signs (Str.ofString "2"))=2:=by decide +kernel
  rw [e]
  exact hR _ _ _ (by assumption) (by assumption)
end
section
section
variable {prog:Program}{w:World}{A:Around}{E:Value→Shared→Prop}{s:Shared}
theorem add_lit {x y z:Str}{t u:Tok}{Q:Value→Shared→Prop}(e:x++y=z) (hsz:x.length + y.length≤sizeLine) (h:∀ t' tk,Q (.str z t') { s with toks:=tk }):wpAny (model prog w) A (binaryOp .Add (.str x t) (.str y u)) Q E s:=by
 subst e;exact PyProof.Rows.add_str h hsz
theorem len_lit {x:Str}{t:Tok}{n:Int}{Q:Value→Shared→Prop}(e:(x.length:Int)=n) (hn:¬ n ≥ 2 ^ 63) (h:∀ t tk,Q (.int n t) { s with toks:=tk }):wpAny (model prog w) A (call (.builtin "len") [.str x t]) Q E s:=by
 subst e;exact P.len_str hn (h _ _)
end
theorem unrEnd_led {h₀:Heap}{L:Addr}{s₁:Shared}{I:Addr}{it:Obj}{rest:(Str→Option Value)→List (Addr × Obj)→Prop}{h':Heap}{tk:Nat}{m':Str→Option Value}{led:List (Addr × Obj)}{a1 a2:Addr}{o1 o2:Obj}
  (F:Fr h₀ L h' m') (N:News h₀ L h' ((I,it)::(a1,o1)::(a2,o2)::led)) (h1:a1 < I∧a2 < I∧AllLt I led) (hr:rest m' ((a1,o1)::(a2,o2)::led)):UnrEnd h₀ L s₁ I it rest { s₁ with heap:=h',toks:=tk }:=by
 have hl:∀ l:List (Addr × Obj),AllLt I l→∀ p∈l,p.1≠I:=by
  intro l
  induction l with
  | nil=>intro _ p hp;cases hp
  | cons q r ih=>
   intro h p hp
   rcases List.mem_cons.mp hp with rfl | hp
   ·exact Nat.ne_of_lt h.1
   ·exact ih h.2 p hp
 refine ⟨h',tk,m',_,rfl,F,N,λ p hp=>?_,hr⟩
 rcases List.mem_cons.mp hp with rfl | hp
 ·exact Nat.ne_of_lt h1.1
 ·rcases List.mem_cons.mp hp with rfl | hp
  ·exact Nat.ne_of_lt h1.2.1
  ·exact hl _ h1.2.2 p hp
theorem len1_1:(Str.ofString "1").length=1:=by decide +kernel
theorem len1_2:(Str.ofString "2").length=1:=by decide +kernel
local macro_rules | `(tactic| walk_at "compareOp In str str")=>`(tactic| first | refine in_lit (b:=true) (by decide +kernel) ?_ | refine in_lit (b:=false) (by decide +kernel) ?_)
local macro_rules | `(tactic| walk_at "compareOp NotIn str str")=>`(tactic| first | refine zz9 (b:=true) (by decide +kernel) ?_ | refine zz9 (b:=false) (by decide +kernel) ?_)
local macro_rules | `(tactic| k_room)=>`(tactic| ((try simp only [depth_under_make,depth_under_kw,depth_in1,depth_deeper,depth_caller,recursionLimit]);omega))
local macro_rules | `(tactic| k_is)=>`(tactic| first | exact fun181 _ | exact fun174 _ | exact fun139 _ | exact nsFIG _ | exact nsW _ | exact nsD _ | exact nsR _ | (k_whole;decide +kernel) | exact rfl)
local macro_rules | `(tactic| walk_at "binaryOp Add str str")=>`(tactic| (first | refine add_lit (z := "1") (by decide +kernel) (by decide +kernel) ?_ | refine add_lit (z := "2") (by decide +kernel) (by decide +kernel) ?_);intro _ _)
local macro_rules | `(tactic| walk_at "call ref")=>`(tactic| (k_dflt (first
 | refine wpAny_call (worth_1 _ (by assumption) (by assumption) (by assumption) (by assumption) (by assumption) rfl (by dsimp only;omega) (by dsimp only;omega) ?_)
 | refine wpAny_call (worth_2 _ (by assumption) (by assumption) (by assumption) (by assumption) (by assumption) rfl (by dsimp only;omega) (by dsimp only;omega) ?_));intro _ _ _ _ _;(try dsimp only);(try k_sweep)))
local macro_rules | `(tactic| walk_at "call builtin:len")=>`(tactic| (first | refine len_lit (n:=1) (by decide +kernel) (by decide) ?_ | refine len_lit (n:=0) (by decide +kernel) (by decide) ?_);intro _ _)
local macro_rules | `(tactic| walk_at "UnrEnd")=>`(tactic| refine unrEnd_led (by assumption) (by assumption) (by assumption) ?_)
theorem dec_1 (w:World) {cn:Str}{sc:Scope}{fa:Addr}{ccd:Value}{ccl:List (Str × Addr)}{outer:List Env}{dp un:Nat}{gd:Option (List Code)}{A₀:Around}{base h₀:Heap}{s:Shared}{L:Addr}{m:Str→Option Value}{led:Led}{mean:ExcName→Option Value}{p:Program}{loose:List Str}{mg mb:Str→Option Value}{t:Tok}
  {R:Result→Shared→Prop}(B:Below A₀ base outer h₀) (X:(KF w.params).In h₀) (T:Top p loose mean mg mb h₀) (F:Fr h₀ L s.heap m) (N:News h₀ L s.heap led)
  (hk:sc.kind=.function) (hd:dp + 60 < 1000) (hu:un + 80 < 9700)
  (hR:∀ a d2 d1 o2 o1 h' tk n t1 t2,Fr h₀ L h' m→News h₀ L h' ((a,zkd [.int 1 t1,.int 0 t2] n)::(d2,o2)::(d1,o1)::led)→d2 < a→d1 < d2→(∀ p∈led,p.1 < d1)→R (.ok (.ret (.ref a))) { s with heap:=h',toks:=tk }):codeAny (model pw_pc0148_01 w) ⟨none,dp,some (envX cn sc L fa ccd ccl::outer),gd,un⟩ (.call (.ref 181) ⟨[.str "1" t],[]⟩) R s:=by
 obtain ⟨hp,gs,dr,tk0,os⟩:=s
 dsimp only at F N hR
 obtain ⟨k,names,b1,b2,fr0⟩:=sc
 obtain rfl:k=.function:=hk
 k_enter
 k_steps
 all_goals try (exfalso;have h9:=len1_1;omega)
 exact hR _ _ _ _ _ _ _ _ _ _ (by assumption) (by assumption) (And.left (by assumption)) (And.left (by assumption)) (by assumption)
theorem dec_2 (w:World) {cn:Str}{sc:Scope}{fa:Addr}{ccd:Value}{ccl:List (Str × Addr)}{outer:List Env}{dp un:Nat}{gd:Option (List Code)}{A₀:Around}{base h₀:Heap}{s:Shared}{L:Addr}{m:Str→Option Value}{led:Led}{mean:ExcName→Option Value}{p:Program}{loose:List Str}{mg mb:Str→Option Value}{t:Tok}
  {R:Result→Shared→Prop}(B:Below A₀ base outer h₀) (X:(KF w.params).In h₀) (T:Top p loose mean mg mb h₀) (F:Fr h₀ L s.heap m) (N:News h₀ L s.heap led)
  (hk:sc.kind=.function) (hd:dp + 60 < 1000) (hu:un + 80 < 9700)
  (hR:∀ a d2 d1 o2 o1 h' tk n t1 t2,Fr h₀ L h' m→News h₀ L h' ((a,zkd [.int 2 t1,.int 0 t2] n)::(d2,o2)::(d1,o1)::led)→d2 < a→d1 < d2→(∀ p∈led,p.1 < d1)→R (.ok (.ret (.ref a))) { s with heap:=h',toks:=tk }):codeAny (model pw_pc0148_01 w) ⟨none,dp,some (envX cn sc L fa ccd ccl::outer),gd,un⟩ (.call (.ref 181) ⟨[.str "2" t],[]⟩) R s:=by
 obtain ⟨hp,gs,dr,tk0,os⟩:=s
 dsimp only at F N hR
 obtain ⟨k,names,b1,b2,fr0⟩:=sc
 obtain rfl:k=.function:=hk
 k_enter
 k_steps
 all_goals try (exfalso;have h9:=len1_2;omega)
 exact hR _ _ _ _ _ _ _ _ _ _ (by assumption) (by assumption) (And.left (by assumption)) (And.left (by assumption)) (by assumption)
end
section
theorem zj5:fillsNumberSlot (.type "tuple") "mul" = pure false:=
 PySem.fillsNumberSlot_seq (id := "tuple.__mul__") (r:=some (.builtin "tuple.__rmul__")) PySem.F.slot_tuple_mul.lookup (by decide +kernel) PySem.F.slot_tuple_rmul.lookup (by decide +kernel)
theorem repeat_tuple:seqRepeat? (.type "tuple")=pure (some (.builtin "tuple.__mul__")):=by
 unfold seqRepeat?
 rw [PySem.seqSlot_of (T := "tuple") (name := "__mul__") (id := "tuple.__mul__") PySem.F.slot_tuple_mul.lookup (by decide +kernel),PySem.seqSlot_of (T := "tuple") (name := "__rmul__") (id := "tuple.__rmul__") PySem.F.slot_tuple_rmul.lookup (by decide +kernel)]
 rfl
theorem int_rmul_tup (a:Int) (t:Tok) (l:Addr) (items:Array Value) (n:Nat) (dd:Option Addr) (sl:Array (Option Value)) :
  Meets (Builtin.«int.__rmul__» ⟨[.int a t,.ref l],[]⟩) (λ _ R s=>s.heap.get? l=some { cls:=.type "tuple",dict:=dd,data:=.seq items n,slots:=sl }∧R (.ok (.ret Value.notImplemented)) s):=
 .of_wp λ prog w A R s h=>by obtain ⟨hp,g,d,tk,os⟩:=s;obtain ⟨hl,h⟩:=h;wp_walk;exact ⟨_,rfl,h⟩
theorem tup_mul0 (l:Addr) (v:Value) (n:Nat) (dd:Option Addr) (sl:Array (Option Value)) (x:Int) (u:Tok) (h1:x=0) :
  Meets (Builtin.«tuple.__mul__» ⟨[.ref l,.int x u],[]⟩) (λ _ R s=>s.heap.get? l=some { cls:=.type "tuple",dict:=dd,data:=.seq #[v] n,slots:=sl }∧R (.ok (.ret (Value.ref s.heap.objs.size))) { s with heap:=s.heap.push { cls:=Value.type "tuple",data:=Data.seq #[] },toks:=s.toks }):=
 .of_wp λ prog w A R s h=>by subst h1;obtain ⟨hp,g,d,tk,os⟩:=s;obtain ⟨hl,h⟩:=h;have f1:=AutoSeq1.idx_int;have f2:=AutoSeq1.sub_tuple_tuple;wp_walk using wpAny_loadPart' hl;exact ⟨_,rfl,h⟩
theorem tup_mul1 (l:Addr) (v:Value) (n:Nat) (dd:Option Addr) (sl:Array (Option Value)) (x:Int) (u:Tok) (h1:x=1) :
  Meets (Builtin.«tuple.__mul__» ⟨[.ref l,.int x u],[]⟩) (λ _ R s=>s.heap.get? l=some { cls:=.type "tuple",dict:=dd,data:=.seq #[v] n,slots:=sl }∧R (.ok (.ret (Value.ref l))) s):=
 .of_wp λ prog w A R s h=>by subst h1;obtain ⟨hp,g,d,tk,os⟩:=s;obtain ⟨hl,h⟩:=h;have f1:=AutoSeq1.idx_int;have f2:=AutoSeq1.sub_tuple_tuple;wp_walk using wpAny_loadPart' hl;exact ⟨_,rfl,h⟩
theorem tup_mul2 (l:Addr) (v:Value) (n:Nat) (dd:Option Addr) (sl:Array (Option Value)) (x:Int) (u:Tok) (a1:¬ (decide (x < -2 ^ 63) || decide (x ≥ 2 ^ 63))=true) (a2:¬ ((#[v]:Array Value).isEmpty || x == 1)=true) (a3:¬ (decide (x≤0) || (#[v]:Array Value).isEmpty)=true)
  (a4:¬ (((#[v]:Array Value).size:Int) * x > (2 ^ 63 - 1) / 8)) (a5:¬ Builtin.Tuple.tupleTooMany (((#[v]:Array Value).size:Int) * x)=true) (a6:((List.replicate x.toNat #[v]).foldl (·++·) #[]).size≤sizeLine) :
  Meets (Builtin.«tuple.__mul__» ⟨[.ref l,.int x u],[]⟩) (λ _ R s=>s.heap.get? l=some { cls:=.type "tuple",dict:=dd,data:=.seq #[v] n,slots:=sl }∧R (.ok (.ret (Value.ref s.heap.objs.size))) { s with heap:=s.heap.push { cls:=Value.type "tuple",data:=Data.seq ((List.replicate x.toNat #[v]).foldl (·++·) #[]) },toks:=s.toks }):=
 .of_wp λ prog w A R s h=>by
  obtain ⟨hp,g,d,tk,os⟩:=s;obtain ⟨hl,h⟩:=h;have f1:=AutoSeq1.idx_int;have f2:=AutoSeq1.sub_tuple_tuple
  wp_walk using wpAny_loadPart' hl
  refine wpAny_ite_false (decide_eq_false a1) ?_
  wp_walk using wpAny_loadPart' hl
  refine wpAny_ite_false (decide_eq_false a2) ?_
  wp_walk using wpAny_loadPart' hl
  refine wpAny_ite_false (decide_eq_false a3) ?_
  wp_walk using wpAny_loadPart' hl
  refine wpAny_ite_false (decide_eq_false a4) ?_
  wp_walk using wpAny_loadPart' hl
  refine wpAny_ite_false (decide_eq_false a5) ?_
  wp_walk using wpAny_loadPart' hl
  exact ⟨_,rfl,h⟩
theorem fold_rep (v:Value):∀ n (a:List Value),(List.replicate n #[v]).foldl (·++·) a.toArray=(a++List.replicate n v).toArray
 | 0,a=>by simp
 | n + 1,a=>by
  rw [List.replicate_succ,List.foldl_cons,List.replicate_succ]
  have:=fold_rep v n (a++[v])
  simp only [List.append_assoc,List.cons_append,List.nil_append] at this
  rw [← this];simp
theorem mulT (prog:Program) (w:World):MulT prog w:=by
 intro A E s h₀ L m news t v x u Q F N ht hx hnew h1
 obtain ⟨⟨cls,d,data,sl⟩,ho,hcl,k,hd⟩:=id ht
 simp only at hcl hd
 subst hcl hd
 refine PySem.wpAny_binaryOp_repeat_ref (T := "tuple") (U := "int") (by decide) ⟨_,ho,rfl⟩ (λ s'=>typeIs_int s' (Int.ofNat x) u) zj5 PySem.F.fills_int_mul PySem.F.slot_int_rmul repeat_tuple PySem.F.slot_int_index.lookup
  (call_meets PySem.F.slot_int_rmul (typeIs_int s (Int.ofNat x) u) PySem.F.entry_int_rmul (PySem.F.args_int_rmul_2 _ _) (int_rmul_tup (Int.ofNat x) u t _ k d sl)
   ⟨ho,rfl,⟨_,ho,rfl⟩,?_⟩)
 have push:∀ ws:Array Value,ws=(List.replicate x v).toArray→wants Q E (.ok (.ret (.ref s.heap.objs.size))) { s with heap:=s.heap.push { cls:=Value.type "tuple",data:=Data.seq ws },toks:=s.toks }:=λ ws e=>by
  subst e
  exact hnew _ _ _ 0 (F.push _) (News.push F N _) (λ p hp=>Heap.lt_size (N p hp).1)
 match x,hx with
 | 0,_=>exact call_meets PySem.F.slot_tuple_mul ⟨_,ho,rfl⟩ PySem.F.entry_tuple_mul (PySem.F.args_tuple_mul_2 _ _) (tup_mul0 t v k d sl (Int.ofNat 0) u rfl) ⟨ho,push _ (by simp)⟩
 | 1,_=>exact call_meets PySem.F.slot_tuple_mul ⟨_,ho,rfl⟩ PySem.F.entry_tuple_mul (PySem.F.args_tuple_mul_2 _ _) (tup_mul1 t v k d sl (Int.ofNat 1) u rfl) ⟨ho,h1 rfl⟩
 | x + 2,hx=>exact call_meets PySem.F.slot_tuple_mul ⟨_,ho,rfl⟩ PySem.F.entry_tuple_mul (PySem.F.args_tuple_mul_2 _ _) (tup_mul2 t v k d sl (Int.ofNat (x + 2)) u (by simp;omega) (by simp;omega) (by simp;omega) (by simp;omega) (by simp [Builtin.Tuple.tupleTooMany,sizeLine];omega)
  (by have:=fold_rep v (x + 2) [];rw [List.nil_append] at this;rw [Int.ofNat_eq_natCast,Int.toNat_natCast,this];simp [sizeLine];omega)) ⟨ho,push _ (by have:=fold_rep v (x + 2) [];rw [List.nil_append] at this;rw [Int.ofNat_eq_natCast,Int.toNat_natCast,this])⟩
end
section
section
variable {w:World}{ti:List TabI}{fr:Led}{U:SubP}{c:Cx}{RX:Cx→Led→Int→Value→Shared→Prop}
 {σ σ':St}{ad:List Ad}{own tb fz:Led}{m:Str→Option Value}{s:Shared}{p:Program}{loose:List Str}{mg mb:Str→Option Value}
theorem zkt {A:Around}{x:List Env}(h1:A.handled=none) (h2:A.frames=some x):A=⟨none,A.depth,some x,A.guards,A.units⟩:=by
 obtain ⟨a,b,d,e,f⟩:=A
 cases h1;cases h2;rfl
theorem Inv.more {K:Frag}{P:Params}(I:Inv U K P ti fr c σ ad own tb fz m s) {s':Shared}{more:Led}(F:Fr c.h₀ c.L s'.heap m) (N:News c.h₀ c.L s'.heap (more++(own++(tb++(fr++fz))))) (hn:((more++(own++(tb++(fr++fz)))).map (·.1)).Nodup) (hog:(s'.os,s'.gens,s'.drawn)=(s.os,s.gens,s.drawn):=by rfl) :
  Inv U K P ti fr c σ ad own tb (more++fz) m s':=by
 have pm:(own++(tb++(fr++(more++fz)))).Perm (more++(own++(tb++(fr++fz)))):=by
  have q:∀ a b:Led,(a++(more++b)).Perm (more++(a++b)):=λ a b=>by
   rw [← List.append_assoc,← List.append_assoc]
   exact List.Perm.append_right _ List.perm_append_comm
  exact ((((q fr fz).append_left tb).trans (q tb _)).append_left own).trans (q own _)
 have hs:fz⊆more++fz:=List.subset_append_right ..
 exact ⟨F,λ q hq=>N q (pm.mem_iff.mp hq),(pm.map _).nodup_iff.mpr hn,I.ow.mono .refl hs,I.tb.mono hs,I.lo.mono .refl hs,hog.trans I.og⟩
theorem dec_nd {a d2 d1:Addr}{o o2 o1:Obj}{led:Led}(hn:(led.map (·.1)).Nodup) (h1:d2 < a) (h2:d1 < d2) (h3:∀ p∈led,p.1 < d1):(([(a,o),(d2,o2),(d1,o1)]++led).map (·.1)).Nodup:=by
 have nlt:∀ {x y:Addr},x < y→y≠x:=λ h e=>Nat.lt_irrefl _ (e▸h)
 have k3:d1∉led.map (·.1):=λ h=>by
  obtain ⟨q,hq,e⟩:=List.mem_map.mp h
  exact nlt (h3 q hq) e.symm
 have k2:d2∉led.map (·.1):=λ h=>by
  obtain ⟨q,hq,e⟩:=List.mem_map.mp h
  exact nlt (Nat.lt_trans (h3 q hq) h2) e.symm
 have k1:a∉led.map (·.1):=λ h=>by
  obtain ⟨q,hq,e⟩:=List.mem_map.mp h
  exact nlt (Nat.lt_trans (Nat.lt_trans (h3 q hq) h2) h1) e.symm
 show (a::d2::d1::led.map (·.1)).Nodup
 refine List.nodup_cons.mpr ⟨?_,List.nodup_cons.mpr ⟨?_,List.nodup_cons.mpr ⟨k3,hn⟩⟩⟩
 ·rw [List.mem_cons,List.mem_cons]
  rintro (h | h | h)
  ·exact nlt h1 h
  ·exact nlt (Nat.lt_trans h2 h1) h
  ·exact k1 h
 ·rw [List.mem_cons]
  rintro (h | h)
  ·exact nlt h2 h
  ·exact k2 h
theorem prim_dec {D:Nat}{x:Str}{v:Int}{vs:List Value}(hx:(x = "1" ∧ v=1)∨(x = "2" ∧ v=2)) (Y:Ok p loose mg mb (KF w.params) c (D + 70)) (I:Inv U (KF w.params) w.params ti fr c σ ad own tb fz m s) (hv:VRs (KF w.params) w.params ad fz [.str x] vs) :
  SdV (model pw_pc0148_01 w) U (KF w.params) w.params ti fr RX c ad fz m (.call (.ref 181) ⟨vs,[]⟩) (ok (.tup [.int v,.int 0]) σ) s:=by
 replace hv:=hv.inv;cases hv with | cons h1 h2=>
 replace h2:=h2.inv;cases h2
 replace h1:=h1.inv;cases h1 with | str t=>
 show codeAny _ _ _ _ _
 rw [zkt Y.hh Y.hA]
 obtain ⟨mean,T⟩:=Y.top
 have dep:=Y.dep
 have un:=Y.un
 have fin:∀ a d2 d1 o2 o1 h' tk n t1 t2,Fr c.h₀ c.L h' m→News c.h₀ c.L h' ((a,zkd [.int v t1,.int 0 t2] n)::(d2,o2)::(d1,o1)::(own++(tb++(fr++fz))))→d2 < a→d1 < d2→(∀ p∈own++(tb++(fr++fz)),p.1 < d1) →
   OkM U (KF w.params) w.params ti fr c ad fz m (.tup [.int v,.int 0]) σ (.ref a) { s with heap:=h',toks:=tk }:=λ a d2 d1 o2 o1 h' tk n t1 t2 F' N' l1 l2 l3=>by
  refine ⟨ad,own,tb,[(a,zkd [.int v t1,.int 0 t2] n),(d2,o2),(d1,o1)]++fz,.refl,List.subset_append_right ..,I.more F' N' (dec_nd I.nd l1 l2 l3),?_⟩
  exact .tup (n:=n) (dd:=none) (sl:=#[]) (.inl (.head _)) (.cons (.int _ _) (.cons (.int _ _) .nil))
 rcases hx with ⟨rfl,rfl⟩ | ⟨rfl,rfl⟩
 ·exact dec_1 w Y.B Y.X T I.F I.N Y.kf (by omega) (by omega) fin
 ·exact dec_2 w Y.B Y.X T I.F I.N Y.kf (by omega) (by omega) fin
theorem Tape.draw_e {t:Tape}{q:Int × Int}(h:t.draw? = some q):t=.draw q.1 q.2:=by
 cases t with
 | draw f d=>cases h;rfl
 | call=>cases h
 | callo=>cases h
theorem SdV.cd {P:Params}{K:Frag}{M:Model}{t:Code}{b:Bool}{r r':Ou AV}(h:b=true→SdV M U K P ti fr RX c ad fz m t r s) (h':b=false→SdV M U K P ti fr RX c ad fz m t r' s):SdV M U K P ti fr RX c ad fz m t (cd b r r') s:=by
 cases b with
 | false=>exact h' rfl
 | true=>exact h rfl
theorem hlenK:out.glob "len" = some (.blt "len"):=by kernel_rfl
theorem fn648:out.fn 648=some ⟨["source", "limit"],[],(topD 66).2.2.1,(topD 66).2.2.2⟩:=by kernel_rfl
theorem prims {D:Nat}(hG:∀ f d ns a v b,U.gen f d ns a v b→GenB pw_pc0148_01 w (KF w.params) ti p loose mg mb (D + 70) f d ns a v b) (fr:Led):PrimOK pw_pc0148_01 w (KF w.params) ti fr U (RX1 ti) out p loose mg mb (D + 70):=by
 intro a as r c σ ad own tb fz m s vs Y I hv hp h
 replace h:prim a as σ=some r:=h
 have to:∀ {b},Nat.beq a b=true→a=b:=Nat.eq_of_beq_eq_true
 refine cd_q h (λ q h=>?_) λ _ h=>cd_q h (λ q h=>?_) λ _ h=>cd_q h (λ q h=>?_) λ _ h=>cd_q h (λ q h=>?_) λ _ h=>cd_q h (λ q h=>?_) λ _ h=>gd_q h λ q h=>?_
 ·rw [to q]
  refine bd_q h λ b hb h=>bd_q h λ x hx h=>bd_q h λ l hl h=>bd_q h λ v hv3 h=>?_
  rw [← Option.some.inj h]
  have hv:=two_q (Q:=λ as=>VRs (KF w.params) w.params ad fz as vs→VRs (KF w.params) w.params ad fz [b.1,b.2] vs) hb id hv
  rw [AV.str_e hx,AV.tup_e hl] at hv
  exact prim_fault (n:=D + 68) (factsI w.params) Y I (isThree_q (Q:=λ l=>VRs (KF w.params) w.params ad fz [.str x,.tup l] vs→VRs (KF w.params) w.params ad fz [.str x,.tup [.int 3,.int v]] vs) hv3 id hv)
 ·rw [to q]
  refine bd_q h λ b hb h=>?_
  rw [← Option.some.inj h]
  have hv:=zj4 (Q:=λ as=>VRs (KF w.params) w.params ad fz as vs→VRs (KF w.params) w.params ad fz [b] vs) hb id hv
  refine SdV.lft λ t ht=>?_
  rw [AV.str_e ht] at hv
  refine SdV.cd (λ q=>prim_dec (.inl ⟨zqo.mp q,rfl⟩) Y I hv) λ _=>SdV.gd λ q=>prim_dec (.inr ⟨zqo.mp q,rfl⟩) Y I hv
 ·rw [to q]
  refine bd_q h λ b hb h=>?_
  rw [← Option.some.inj h]
  have hv:=two_q (Q:=λ as=>VRs (KF w.params) w.params ad fz as vs→VRs (KF w.params) w.params ad fz [b.1,b.2] vs) hb id hv
  refine SdV.lft λ i hi=>SdV.lft λ l hl=>SdV.lft λ ts hts=>?_
  cases ts with
  | nil=>trivial
  | cons t r=>
   refine SdV.lft λ q hq=>SdV.gd λ e=>?_
   rw [AV.hnd_e hi,AV.int_e hl,of_decide_eq_true e] at hv
   have hi:=srcAt_e hts
   rw [Tape.draw_e hq] at hi
   exact prim_draw (n:=D + 69) (O:=out) (λ c=>rx_m _ _ c) zz6 (facts w.params) hlenK ((zje w.params).fn _ _ fn648) Y I hi hv
 ·rw [to q]
  refine bd_q h λ b hb h=>bd_q h λ i hi h=>?_
  have hv:=zj4 (Q:=λ as=>VRs (KF w.params) w.params ad fz as vs→VRs (KF w.params) w.params ad fz [b] vs) hb id hv
  rw [AV.hnd_e hi] at hv
  exact zkk (d:=.int 0) hG Y I hv h
 ·rw [to q]
  refine bd_q h λ b hb h=>bd_q h λ i hi h=>?_
  have hv:=two_q (Q:=λ as=>VRs (KF w.params) w.params ad fz as vs→VRs (KF w.params) w.params ad fz [b.1,b.2] vs) hb id hv
  rw [AV.hnd_e hi] at hv
  exact zkk hG Y I hv h
 ·rw [to q]
  refine bd_q h λ b hb h=>bd_q h λ i hi h=>?_
  have hv:=two_q (Q:=λ as=>VRs (KF w.params) w.params ad fz as vs→VRs (KF w.params) w.params ad fz [b.1,b.2] vs) hb id hv
  rw [AV.hnd_e hi] at hv
  exact zkk hG Y I hv h
end
end
section
noncomputable def tis:List TabI:=[⟨232,174,36, "read_primary.<locals>.<lambda>"⟩,⟨379,307,39, "read_condition.<locals>.<lambda>"⟩]
theorem tis_all (sc:Scope) (i:TabI) (h:zxe sc=some i):i∈tis:=by
 unfold zxe at h
 split at h
 ·cases h;exact .head _
 ·split at h
  ·cases h;exact .tail _ (.head _)
  ·cases h
section
variable {w:World}{fr:Led}{U:SubP}{c:Cx}{RX:Cx→Led→Int→Value→Shared→Prop}
 {σ σ':St}{ad:List Ad}{own tb fz:Led}{m:Str→Option Value}{s:Shared}{p:Program}{loose:List Str}{mg mb:Str→Option Value}
noncomputable abbrev BlkK (w:World) (p:Program) (loose:List Str) (mg mb:Str→Option Value) (D:Nat):=Blk pw_pc0148_01 w (KF w.params) tis (RX1 tis) p loose mg mb D
noncomputable abbrev GenK (w:World) (p:Program) (loose:List Str) (mg mb:Str→Option Value) (D:Nat):=GenB pw_pc0148_01 w (KF w.params) tis p loose mg mb D
noncomputable def lvl (w:World) (p:Program) (loose:List Str) (mg mb:Str→Option Value) (D:Nat):SubP:=⟨BlkK w p loose mg mb D,GenK w p loose mg mb D⟩
theorem Blk.le {D D':Nat}{f:Nat}{toks:List Tk}{o:AV ⊕ Int}{post:List Tk}(h:D≤D') (x:BlkK w p loose mg mb D f toks o post):BlkK w p loose mg mb D' f toks o post:=
 λ c fr x' own tb fz m s vs Y I hv=>x c fr x' own tb fz m s vs (Y.le h) I hv
theorem GenB.le {D D':Nat}{f d:Nat}{ns:List Int}{a b:Nat}{v:AV}(h:D≤D') (x:GenK w p loose mg mb D f d ns a v b):GenK w p loose mg mb D' f d ns a v b:=
 λ c fr x' own tb fz m s vs cs n' Y I hn hc hi hv=>x c fr x' own tb fz m s vs cs n' (Y.le h) I hn hc hi hv
theorem baseK (D:Nat):Base pw_pc0148_01 w (KF w.params) tis (lvl w p loose mg mb (D + 70)) out p loose mg mb (D + 70) where
 hM:=mulT _ _
 FA:=facts _
 FC:=zje _
 hr:=rangeF _
 hti:=λ _=>tis_all
 hP:=λ fr=>prims (λ f d ns a v b h=>h) fr
 hB:=λ f toks o post h=>h
 hR:=raise_ok (factsX _)
theorem base0 (D:Nat):Base pw_pc0148_01 w (KF w.params) [] noU (outL false) p loose mg mb (D + 70) where
 hM:=mulT _ _
 FA:=⟨(facts w.params).glob,(facts w.params).attr,(facts w.params).set,(facts w.params).within,(facts w.params).res,(facts w.params).split,(facts w.params).dict⟩
 FC:=⟨(zje w.params).fn,(zje w.params).init,(zje w.params).can,(zje w.params).meth,(zje w.params).rdr⟩
 hr:=rangeF _
 hti:=λ h=>nomatch h
 hP:=λ fr=>prims (U:=noU) (λ _ _ _ _ _ _ (h:False)=>h.elim) fr
 hB:=λ _ _ _ _ (h:False)=>h.elim
 hR:=raise_ok (factsX _)
noncomputable def Pure (a:AV):Prop:=zqc [a]=true∧∀ K P ad fz u,VR K P ad fz a u→VR K P [] fz a u
noncomputable def zq4 (l:List AV):Prop:=∀ K P ad fz vs,VRs K P ad fz l vs→VRs K P [] fz l vs
theorem zq4.nil:zq4 []:=λ K P ad fz vs h=>h.qNil .nil
theorem Pure.tup {l:List AV}(h:zq4 l):Pure (.tup l):=⟨rfl,λ K P ad fz u x=>x.qTup rfl λ a b=>.tup a (h _ _ _ _ _ b)⟩
theorem Pure.str (x:Str):Pure (.str x):=⟨rfl,λ K P ad fz u h=>h.qStr rfl λ t=>.str _ _⟩
theorem Pure.int (x:Int):Pure (.int x):=⟨rfl,λ K P ad fz u h=>h.qInt rfl λ t=>.int _ _⟩
theorem Pure.none:Pure .none:=⟨rfl,λ K P ad fz u h=>h.qNone rfl .none⟩
theorem Pure.bool (b:Bool):Pure (.bool b):=⟨rfl,λ K P ad fz u h=>h.qBool rfl (.bool _)⟩
theorem zq4.cons {a:AV}{l:List AV}(h1:Pure a) (h2:zq4 l):zq4 (a::l):=λ K P ad fz vs h=>h.qCons (zx2 h1.1) λ a b=>.cons (h1.2 _ _ _ _ _ a) (h2 _ _ _ _ _ b)
theorem VRs.qSp {K:Frag}{P:Params}{l r:List AV}{n:Nat}{vs:List Value}{Q:List Value→Prop}(h:VRs K P ad fz (.sp l n::r) vs) (k:∀ {vs ws},VRs K P ad fz l vs→zqc l=true→vs.length≤n→VRs K P ad fz r ws→Q (vs++ws)):Q vs:=
 VRs.rec1 (M:=λ l' vs=>l'=.sp l n::r→Q vs) (λ e=>nomatch e) (λ a _ _ e=>Bool.noConfusion (a.notSp.symm.trans (congrArg conS (List.cons.inj e).1))) (λ a b c d _ e=>by cases e;exact k a b c d) h rfl
theorem zq4.sp {l r:List AV}{n:Nat}(h1:zq4 l) (h2:zq4 r):zq4 (.sp l n::r):=λ K P ad fz vs h=>h.qSp λ a e b c=>.sp (h1 _ _ _ _ _ a) e b (h2 _ _ _ _ _ c)
theorem zOK_ex (rest:List Item):∀ (e p:Nat) (z₀:Nat→Nat),∃ z,(∀ i,i≤e→z i=z₀ i)∧zOK z e p rest:=by
 induction rest with
 | nil=>exact λ e p z₀=>⟨z₀,λ _ _=>rfl,trivial⟩
 | cons it r ih=>
  intro e p z₀
  cases it with
  | tk t=>exact ih e (p + 1) z₀
  | sub f hd tl o=>
   obtain ⟨z,h1,h2⟩:=ih (e + 1) (p + (tl.length + 1)) (λ i=>if i=e + 1 then p + (tl.length + 1) else z₀ i)
   have h3:z (e + 1)=p + (tl.length + 1):=(h1 _ (Nat.le_refl _)).trans (if_pos rfl)
   exact ⟨z,λ i hi=>(h1 i (Nat.le_succ_of_le hi)).trans (if_neg (Nat.ne_of_lt (Nat.lt_succ_of_le hi))),h3,h3.symm▸h2⟩
theorem zkc {U:SubP}{K:Frag}{P:Params}{ti:List TabI}{x:Ad}{toks:List Tk}{rest:List Item}(I:Inv noU K P ti fr c ⟨[],[.rdr 0 0 (toks.map .tk) nmA]⟩ [x] own tb fz m s) (hf:flat rest=toks)
  (hU:∀ pre f hd tl o post,rest=pre++Item.sub f hd tl o::post→U.blk f (hd::tl) o (flat post)) :
  ∃ z,z 0=x.z 0∧Inv U K P ti fr c ⟨[],[.rdr 0 0 rest nmA]⟩ [{ x with z:=z }] own tb fz m s:=by
 obtain ⟨z,h1,h2⟩:=zOK_ex rest 0 (x.z 0) x.z
 have h0:z 0=x.z 0:=h1 0 (Nat.le_refl _)
 refine ⟨z,h0,I.F,I.N,I.nd,I.ow.qOne λ {l} o1=>OWs.one ?_,I.tb,(λ y a q=>nomatch q),I.og⟩
 refine IRdr.casesOn (motive:=λ l _=>OW U K P [{ x with z:=z }] fz { x with z:=z } (.rdr 0 0 rest nmA) l) (show IRdr noU K P [x] fz x 0 0 (toks.map .tk) nmA l from o1.inv) λ {n2 tvs n tks vn t1 t2 t3 t4} a1 a2 a3 a4 a5 a6 a7 a8 a9 a10=>?_
 rw [zqd] at a4
 have goal:=OW.rdr (U:=U) (K:=K) (P:=P) (ad:=[{ x with z:=z }]) (fz:=fz) (x:={ x with z:=z }) (e:=0) (k:=0) (n2:=n2) (t1:=t1) (t2:=t2) (t3:=t3) (t4:=t4) a1 a2 a3.toks (by rw [hf,a4];show _=tks.drop (z 0 + 0);rw [h0]) a5 a6 (by show z 0 + 0≤_;rw [h0];exact a7) (by show zOK z 0 (z 0 + 0) rest;rw [h0];exact h2) hU a10.nmad
 have goal:OW U K P [{ x with z:=z }] fz { x with z:=z } (.rdr 0 0 rest nmA) [(x.d,dictOf [⟨PyData.keyHash P "tokens",.str "tokens" t1,.ref x.t⟩,⟨PyData.keyHash P "at",.str "at" t2,.int ((z 0 + 0:Nat):Int) t3⟩,⟨PyData.keyHash P "named",.str "named" t4,vn⟩] n2)]:=goal
 rw [h0] at goal
 exact goal
theorem rdr_len {U:SubP}{K:Frag}{P:Params}{x:Ad}{l:Led}{e k:Nat}{rest:List Item}{nm:AV}(h:OW U K P ad fz x (.rdr e k rest nm) l):(flat rest).length=x.n - (x.z e + k)∧x.z e + k≤x.n:=
 IRdr.casesOn (show IRdr U K P ad fz x e k rest nm l from h.inv) λ _ _ _ a4 a5 _ a7 _ _ _=>⟨by rw [a4,List.length_drop,a5],a5▸a7⟩
theorem blk_close {U:SubP}{K:Frag}{P:Params}{x:Ad}{z:Nat→Nat}{ads:List Ad}{es fz' l:Led}{e k:Nat}{rest:List Item}{post:List Tk}(hk:x.z 0 + (z e + k - x.z 0)=z e + k) (hpost:flat rest=post) (h:OW U K P ([⟨x.a,x.d,x.t,z,x.n⟩]++ads) fz' ⟨x.a,x.d,x.t,z,x.n⟩ (.rdr e k rest nmA) l) :
  OW noU K P [x] (es++fz') x (.rdr 0 (z e + k - x.z 0) (post.map .tk) nmA) l:=by
 have hs:fz'⊆es++fz':=List.subset_append_right ..
 refine IRdr.casesOn (motive:=λ l _=>OW noU K P [x] (es++fz') x (.rdr 0 (z e + k - x.z 0) (post.map .tk) nmA) l) (show IRdr U K P ([⟨x.a,x.d,x.t,z,x.n⟩]++ads) fz' ⟨x.a,x.d,x.t,z,x.n⟩ e k rest nmA l from h.inv) λ {n2 tvs n tks vn t1 t2 t3 t4} b1 b2 b3 b4 b5 b6 b7 b8 b9 b10=>?_
 have b4:flat rest=tks.drop (z e + k):=b4
 have goal:=OW.rdr (U:=noU) (K:=K) (P:=P) (ad:=[x]) (fz:=es++fz') (x:=x) (e:=0) (k:=z e + k - x.z 0) (rest:=post.map .tk) (n2:=n2) (t1:=t1) (t2:=t2) (t3:=t3) (t4:=t4) (hs b1) (hs b2) (b3.toks.mono .refl hs) (by rw [zqd,hk,← b4,hpost]) b5 b6 (by rw [hk];exact b7) zOK_tk (λ _ _ _ _ _ _ q=>sub_notk q) (b10.nmad.mono .refl hs)
 rw [hk] at goal
 exact goal
theorem perm_close {e₁ es tb fr fz:Led}:((e₁++es)++(tb++(fr++fz))).Perm (e₁++(tb++(fr++(es++fz)))):=by
 have q:∀ a b:Led,(a++(es++b)).Perm (es++(a++b)):=λ a b=>by
  rw [← List.append_assoc,← List.append_assoc]
  exact List.Perm.append_right _ List.perm_append_comm
 rw [List.append_assoc]
 exact List.Perm.append_left _ ((((q fr fz).append_left tb).trans (q tb _)).symm)
theorem xtra_vr {K:Frag}{P:Params}{ad':List Ad}{f:Nat}{vs:List Value}(h:VRs K P ad fz (xtra f) vs):VRs K P ad' fz (xtra f) vs:=by
 unfold xtra at h ⊢
 cases q:rdF f with
 | false=>rw [q] at h;exact h.qNil .nil
 | true=>rw [q] at h;exact h.qCons rfl λ a b=>b.qNil (a.qGref rfl (.cons (.gref _) .nil))
theorem hnd_vr {K:Frag}{P:Params}{x y:Ad}{f:Nat}{vs:List Value}(he:y.a=x.a) (h:VRs K P [x] fz (.hnd 0::xtra f) vs):VRs K P [y] fz (.hnd 0::xtra f) vs:=
 h.qCons rfl λ {v vs} a b=>a.qHnd (Q:=λ v=>VRs K P [y] fz (.hnd 0::xtra f) (v::vs)) rfl λ {z} e=>by
  rw [← Option.some.inj (show some x=some z from e),← he]
  exact .cons (.hnd rfl) (xtra_vr b)
theorem close_ar {a b n c z:Nat}(h1:a + b=n - (z + 0)) (h2:b=n - c) (h3:z + 0≤n) (h4:c≤n):z + (c - z)=c:=by omega
theorem blk_ok {D K f:Nat}{toks post:List Tk}{rest rest':List Item}{v:AV}{loc:List (Str × AV)}{e k:Nat}{junk:List HO}(hf:flat rest=toks++post)
  (hU:∀ pre f hd tl o post,rest=pre++Item.sub f hd tl o::post→BlkK w p loose mg mb (D + 70) f (hd::tl) o (flat post)) (hx:zqc (.hnd 0::xtra f)=true)
  (hrun:(run out K).C (.gref f) (.hnd 0::xtra f) ⟨[],[.rdr 0 0 rest nmA]⟩=some (.ok v ⟨loc,.rdr e k rest' nmA::junk⟩)) (hpost:flat rest'=post) (hv:Pure v) :
  BlkK w p loose mg mb (D + 70 + K) f toks (.inl v) post:=by
 intro c fr x own tb fz m s vs Y I hvs
 obtain ⟨z,hz,I₁⟩:=zkc (U:=lvl w p loose mg mb (D + 70)) I hf hU
 have Y':Ok p loose mg mb (KF w.params) c (K + (D + 70)):=Y.le (by omega)
 have hvs':VRs (KF w.params) w.params [{ x with z:=z }] fz (.hnd 0::xtra f) vs:=hnd_vr (x:=x) rfl hvs
 have main:=(zq8 (baseK (w:=w) (p:=p) (loose:=loose) (mg:=mg) (mb:=mb) D) K c Y').C fr (.gref f) f _ vs _ _ _ _ _ m s I₁ (.gref f) hvs' hx
 rw [hrun] at main
 refine codeAny_mono main λ r s' h=>?_
 cases r with
 | error e=>exact h.elim
 | ok fl=>
  cases fl with
  | ret u=>
   obtain ⟨ad',own',tb',fz',hp,hfz,I₂,hu⟩:=h
   obtain ⟨ads,rfl⟩:=hp
   refine OWs.qCons (Q:=λ xs own'=>xs=[⟨x.a,x.d,x.t,z,x.n⟩]++ads→Inv _ _ _ _ _ c _ _ own' tb' fz' m s'→_) I₂.ow (λ {y e₁ xs es} o1 o2 ey I₂=>?_) rfl I₂
   have o1:=(List.cons.inj ey).1▸o1
   have hs:fz'⊆es++fz':=List.subset_append_right ..
   have hk:x.z 0 + (z e + k - x.z 0)=z e + k:=I.ow.qOne (Q:=λ _=>x.z 0 + (z e + k - x.z 0)=z e + k) λ c1=>by
    obtain ⟨g1,g2⟩:=rdr_len c1
    obtain ⟨g3,g4⟩:=rdr_len o1
    rw [zqd,List.length_append] at g1
    rw [hpost] at g3
    exact close_ar g1 g3 g2 g4
   exact ⟨e₁,tb',es++fz',λ _ h=>hs (hfz h),z e + k - x.z 0,⟨I₂.F,λ q hq=>I₂.N q (perm_close.mem_iff.mpr hq),(perm_close.map _).nodup_iff.mp I₂.nd,OWs.one (blk_close hk hpost o1),I₂.tb.mono hs,(λ y a q=>nomatch q),I₂.og⟩,(hv.2 _ _ _ _ _ hu).mono .refl hs⟩
  | _=>exact h.elim
theorem blk_exc {D K f:Nat}{toks post:List Tk}{rest:List Item}{ix:Int}(hf:flat rest=toks++post)
  (hU:∀ pre f hd tl o post,rest=pre++Item.sub f hd tl o::post→BlkK w p loose mg mb (D + 70) f (hd::tl) o (flat post)) (hx:zqc (.hnd 0::xtra f)=true)
  (hrun:(run out K).C (.gref f) (.hnd 0::xtra f) ⟨[],[.rdr 0 0 rest nmA]⟩=some (.exc ix)) :
  BlkK w p loose mg mb (D + 70 + K) f toks (.inr ix) post:=by
 intro c fr x own tb fz m s vs Y I hvs
 obtain ⟨z,hz,I₁⟩:=zkc (U:=lvl w p loose mg mb (D + 70)) I hf hU
 have Y':Ok p loose mg mb (KF w.params) c (K + (D + 70)):=Y.le (by omega)
 have hvs':VRs (KF w.params) w.params [{ x with z:=z }] fz (.hnd 0::xtra f) vs:=hnd_vr (x:=x) rfl hvs
 have main:=(zq8 (baseK (w:=w) (p:=p) (loose:=loose) (mg:=mg) (mb:=mb) D) K c Y').C fr (.gref f) f _ vs _ _ _ _ _ m s I₁ (.gref f) hvs' hx
 rw [hrun] at main
 exact main
end
end
section
noncomputable def kd (w:Str):Str:=match zxc w ["1", "2"] with
 | true => "number"
 | false=>match zxc w [".", "(", ")", "="] with
  | true => "sign"
  | false => "word"
noncomputable def tokW (w:Str) (i:Int):Tk:=⟨kd w,w,i⟩
noncomputable def zqa:Int→List Str→List Tk
 | _,[]=>[]
 | i,w::r=>tokW w i::zqa (i + 1) r
theorem zqk:∀ (i:Int) (a b:List Str),zqa i (a++b)=zqa i a++zqa (i + a.length) b
 | i,[],b=>by simp [zqa]
 | i,w::r,b=>by
  simp only [List.cons_append,zqa,zqk (i + 1) r b,List.length_cons,List.cons.injEq,true_and]
  congr 2
  push_cast;omega
theorem zzl:∀ (i:Int) (a:List Str),(zqa i a).length=a.length
 | _,[]=>rfl
 | i,_::r=>by simp [zqa,zzl (i + 1) r]
mutual
inductive Sx where
 | sm (j:Nat)
 | iff (c t:Nat) (y:Bx) (cl:Bool)
 | ife (c t:Nat) (y n:Bx) (cl:Bool)
inductive Bx where
 | one (s:Sx)
 | two (s s':Sx)
end
noncomputable def cW:Nat→List Str
 | 0=>["A", "=", "1"]
 | 1=>["T", "(", "2", ")", "IS", "GREATER", "THAN", "A"]
 | 2=>["F-1"]
 | _=>["A", "NUMERIC", "OR", "NOT", "F-1"]
noncomputable def cT:Nat→List AV
 | 0=>[.str "rel",.str "=",aA,aOne]
 | 1=>[.str "rel",.str ">",aT,aA]
 | 2=>[.str "named",.tup [.str "ref",.str "F-1",.tup [],.tup [],.none]]
 | _=>[.str "or",.tup [.str "class",.str "NUMERIC",aA],.tup [.str "not",.tup [.str "named",.tup [.str "ref",.str "F-1",.tup [],.tup [],.none]]]]
noncomputable def smW:Nat→List Str
 | 0=>["GO", "TO", "P-1"]
 | 1=>["GO", "P-1", "IN", "S-1"]
 | 2=>["GO", "TO", "P-1", "P-2", "OF", "S-1", "DEPENDING", "ON", "A"]
 | 3=>["GO", "TO", "P-1", "P-2", "OF", "S-1", "DEPENDING", "ON", "B", "OF", "C"]
 | 4=>["GO", "TO", "P-1", "P-2", "OF", "S-1", "DEPENDING", "ON", "T", "(", "2", ")"]
 | 5=>["GO", "TO", "P-1", "P-2", "OF", "S-1", "DEPENDING", "ON", "B", "IN", "C"]
 | 6=>["EXIT"]
 | 7=>["EXIT", "PROGRAM"]
 | _=>["STOP", "RUN"]
noncomputable def depT (a:AV):List AV:=[.str "goto-dep",.tup [.tup [.str "P-1",.str ""],.tup [.str "P-2",.str "S-1"]],a]
noncomputable def smT:Nat→List AV
 | 0=>[.str "goto",.tup [.str "P-1",.str ""]]
 | 1=>[.str "goto",.tup [.str "P-1",.str "S-1"]]
 | 2=>depT aA
 | 3=>depT aB
 | 4=>depT aT
 | 5=>depT aB
 | 6=>[.str "exit"]
 | 7=>[.str "exit-program"]
 | _=>[.str "stop"]
noncomputable def smF:Nat→Nat
 | 0 | 1 | 2 | 3 | 4 | 5=>412
 | 6 | 7=>419
 | _=>426
noncomputable def thW:Nat→List Str
 | 0=>["THEN"]
 | _=>[]
noncomputable abbrev endW:Str := "END-IF"
noncomputable abbrev zqj:Str := "ELSE"
noncomputable def ends (n:Nat):List Str:=List.replicate n endW
mutual
noncomputable def zxd:Sx→Nat
 | .sm _=>0
 | .iff _ _ y cl=>match cl with | true=>0 | false=>zqy y + 1
 | .ife _ _ _ n cl=>match cl with | true=>0 | false=>zqy n + 1
noncomputable def zqy:Bx→Nat
 | .one s=>zxd s
 | .two _ s=>zxd s
end
mutual
noncomputable def owS:Sx→List Str
 | .sm j=>smW j
 | .iff c t y cl => "IF" :: (cW c++(thW t++(owB y++match cl with | true=>ends (zqy y + 1) | false=>[])))
 | .ife c t y n cl => "IF" :: (cW c++(thW t++(owB y++(ends (zqy y)++(zqj::(owB n++match cl with | true=>ends (zqy n + 1) | false=>[]))))))
noncomputable def owB:Bx→List Str
 | .one s=>owS s
 | .two s s'=>owS s++owS s'
end
mutual
noncomputable def cwS:Sx→List Str
 | .sm j=>smW j
 | .iff c t y _ => "IF" :: (cW c++(thW t++(cwB y++[endW])))
 | .ife c t y n _ => "IF" :: (cW c++(thW t++(cwB y++(zqj::(cwB n++[endW])))))
noncomputable def cwB:Bx→List Str
 | .one s=>cwS s
 | .two s s'=>cwS s++cwS s'
end
mutual
noncomputable def trS:Sx→List AV
 | .sm j=>smT j
 | .iff c _ y _=>[.str "if",.tup (cT c),.tup (trB y),.tup []]
 | .ife c _ y n _=>[.str "if",.tup (cT c),.tup (trB y),.tup (trB n)]
noncomputable def trB:Bx→List AV
 | .one s=>[.tup (trS s)]
 | .two s s'=>[.tup (trS s),.tup (trS s')]
end
mutual
noncomputable def okS:Sx→Prop
 | .sm j=>j < 9
 | .iff c t y _=>c < 4∧t < 2∧okB y
 | .ife c t y n _=>c < 4∧t < 2∧okB y∧okB n
noncomputable def okB:Bx→Prop
 | .one s=>okS s
 | .two s s'=>okS s∧okS s'∧zxd s=0
end
mutual
theorem closeS:∀ s:Sx,okS s→owS s++ends (zxd s)=cwS s
 | .sm j,_=>by simp [owS,zxd,cwS,ends]
 | .iff c t y cl,h=>by
  have ih:=closeB y (by unfold okS at h;exact h.2.2)
  have e1:ends (zqy y + 1)=ends (zqy y)++[endW]:=by unfold ends;rw [List.replicate_succ']
  cases cl
  ·simp only [owS,zxd,cwS,List.append_nil,List.cons_append,List.append_assoc,e1]
   rw [← List.append_assoc (owB y),ih]
  ·simp only [owS,zxd,cwS,List.cons_append,List.append_assoc,e1]
   rw [← List.append_assoc (owB y),ih]
   simp [ends]
 | .ife c t y n cl,h=>by
  have h:c < 4∧t < 2∧okB y∧okB n:=by unfold okS at h;exact h
  have ih:=closeB y h.2.2.1
  have ih2:=closeB n h.2.2.2
  have e1:ends (zqy n + 1)=ends (zqy n)++[endW]:=by unfold ends;rw [List.replicate_succ']
  cases cl
  ·simp only [owS,zxd,cwS,List.append_nil,List.cons_append,List.append_assoc,e1]
   rw [← List.append_assoc (owB y),ih,← List.append_assoc (owB n),ih2]
  ·simp only [owS,zxd,cwS,List.cons_append,List.append_assoc,e1]
   rw [← List.append_assoc (owB y),ih,← List.append_assoc (owB n),ih2]
   simp [ends]
theorem closeB:∀ b:Bx,okB b→owB b++ends (zqy b)=cwB b
 | .one s,h=>by unfold owB zqy cwB;exact closeS s (by unfold okB at h;exact h)
 | .two s s',h=>by
  have h:okS s∧okS s'∧zxd s=0:=by unfold okB at h;exact h
  show (owS s++owS s')++ends (zxd s')=cwS s++cwS s'
  have i1:=closeS s h.1
  rw [h.2.2] at i1
  rw [List.append_assoc,closeS s' h.2.1,← i1]
  simp [ends]
end
end
section
noncomputable def tabR {α β:Type}(G:α→β):List α→List β
 | []=>[]
 | a::l=>G a::tabR G l
theorem zqx {α β:Type}{F G:α→β}{l:List α}(h:l.map F=tabR G l) {a:α}(ha:a∈l):F a=G a:=by
 induction l with
 | nil=>cases ha
 | cons x l ih=>
  have h1:F x::l.map F=G x::tabR G l:=h
  rcases List.mem_cons.mp ha with rfl | h'
  ·exact (List.cons.inj h1).1
  ·exact ih (List.cons.inj h1).2 h'
noncomputable def ix2 (m n:Nat):List (Nat × Nat):=(List.range m).flatMap λ a=>(List.range n).map λ b=>(a,b)
theorem zx4 {m n a b:Nat}(h1:a < m) (h2:b < n):(a,b)∈ix2 m n:=List.mem_flatMap.mpr ⟨a,List.mem_range.mpr h1,List.mem_map.mpr ⟨b,List.mem_range.mpr h2,rfl⟩⟩
noncomputable def ixC {α:Type}(m:Nat) (l:List α):List (Nat × α):=(List.range m).flatMap λ a=>l.map λ b=>(a,b)
theorem zxs {α:Type}{m a:Nat}{l:List α}{b:α}(h1:a < m) (h2:b∈l):(a,b)∈ixC m l:=List.mem_flatMap.mpr ⟨a,List.mem_range.mpr h1,List.mem_map.mpr ⟨b,h2,rfl⟩⟩
end
section
noncomputable def resR (x:Ou AV):Option (AV × List (Str × AV) × Nat × Nat × List Item × AV):=bd (okA x) λ p=>List.rec none (λ o _ _=>mp (λ q=>(p.1,p.2.loc,q.e,q.k,q.rest,q.nm)) o.rdr?) p.2.ho
noncomputable def excR (x:Ou AV):Option Int:=bd x λ r=>Rs.rec (λ _ _=>none) some r
theorem resR_ex {x:Ou AV}{v:AV}{l:List (Str × AV)}{e k:Nat}{r:List Item}{nm:AV}(h:resR x=some (v,l,e,k,r,nm)):∃ junk,x=some (.ok v ⟨l,.rdr e k r nm::junk⟩):=by
 exact bd_q h λ p h1 h=>head_q (Q:=λ ho=>x=some (.ok p.1 ⟨p.2.loc,ho⟩)→∃ junk,x=some (.ok v ⟨l,.rdr e k r nm::junk⟩)) h (λ o rr h e=>
  mp_q (Q:=λ t=>∃ junk,x=some (.ok t.1 ⟨t.2.1,.rdr t.2.2.1 t.2.2.2.1 t.2.2.2.2.1 t.2.2.2.2.2::junk⟩)) h λ q h2=>⟨rr,HO.rdr_e h2▸e⟩) (okA_e h1)
theorem excR_ex {x:Ou AV}{i:Int}(h:excR x=some i):x=some (.exc i):=
 bd_q h λ r h1 h=>by
  cases r with
  | ok=>exact nn h
  | exc j=>rw [h1,Option.some.inj h]
noncomputable def hW:Nat→Str
 | 0 => "IF"
 | 1 => "GO"
 | 2 => "EXIT"
 | _ => "STOP"
noncomputable def hF:Nat→Nat
 | 0=>405
 | 1=>412
 | 2=>419
 | _=>426
noncomputable def H5:List Str:=["THEN", "IF", "GO", "EXIT", "STOP"]
noncomputable def H7:List Str:=["IF", "GO", "EXIT", "STOP", "ELSE", "END-IF", "."]
noncomputable def H3:List Str:=["ELSE", "END-IF", "."]
theorem memH5 {x:Str}(h:x∈H5):x = "THEN" ∨ x = "IF" ∨ x = "GO" ∨ x = "EXIT" ∨ x = "STOP" := by simpa [H5] using h
theorem memH7 {x:Str}(h:x∈H7):x = "IF" ∨ x = "GO" ∨ x = "EXIT" ∨ x = "STOP" ∨ x = "ELSE" ∨ x = "END-IF" ∨ x = "." := by simpa [H7] using h
theorem memH3 {x:Str}(h:x∈H3):x = "ELSE" ∨ x = "END-IF" ∨ x = "." := by simpa [H3] using h
theorem H3_7 {h:Str}(hh:h∈H3):h∈H7:=by rcases memH3 hh with rfl | rfl | rfl<;>simp [H7]
theorem h4 {h:Nat}(hh:h < 4):h=0∨h=1∨h=2∨h=3:=
 (Nat.lt_succ_iff_lt_or_eq.mp hh).elim (λ h=>(Nat.lt_succ_iff_lt_or_eq.mp h).elim (λ h=>(Nat.lt_succ_iff_lt_or_eq.mp h).elim (λ h=>.inl (Nat.lt_one_iff.mp h)) (λ h=>.inr (.inl h))) (λ h=>.inr (.inr (.inl h)))) (λ h=>.inr (.inr (.inr h)))
theorem hW_7 {h:Nat}(hh:h < 4):hW h∈H7:=by rcases h4 hh with rfl | rfl | rfl | rfl<;>decide
theorem hW_5 {h:Nat}(hh:h < 4):hW h∈H5:=by rcases h4 hh with rfl | rfl | rfl | rfl<;>decide
noncomputable abbrev rR (n f:Nat) (xs:List AV) (l:List Item):=(run out n).C (.gref f) (.hnd 0::xs) ⟨[],[.rdr 0 0 l nmA]⟩
theorem rR_eq (n f:Nat) (xs:List AV) (l:List Item):rR n f xs l=(runF out n).C (.gref f) (.hnd 0::xs) ⟨[],[.rdr 0 0 l nmA]⟩:=by unfold rR;rw [zjj]
noncomputable def rF (n f:Nat) (xs:List AV) (l:List Item):=(runF out n).C (.gref f) (.hnd 0::xs) ⟨[],[.rdr 0 0 l nmA]⟩
theorem rR_rF (n f:Nat) (xs:List AV) (l:List Item):rR n f xs l=rF n f xs l:=rR_eq n f xs l
theorem zx6 {n f:Nat}{xs:List AV}{l:List Item}{β:Type}{g:Ou AV→β}{x:β}(h:g (rF n f xs l)=x):g (rR n f xs l)=x:=rR_rF n f xs l▸h
abbrev RC (i q:Int) (r:List Tk) (c:Nat) (x:Str):Prop:=resR (rR 100 384 [] ((zqa i (cW c)++tokW x q::r).map Item.tk))=some (.tup (cT c),[],0,(cW c).length,(tokW x q::r).map .tk,nmA)
theorem r_cond (i q:Int) (r:List Tk):∀ c x,c < 4→x∈H5→RC i q r c x:=λ c x hc hx=>
 zx6 (g:=resR) (zqx (F:=λ i0:Nat × Str=>resR (rF 100 384 [] ((zqa i (cW i0.1)++tokW i0.2 q::r).map Item.tk))) (G:=λ i0=>some (.tup (cT i0.1),[],0,(cW i0.1).length,(tokW i0.2 q::r).map .tk,nmA)) (l:=ixC 4 H5) (a:=(c,x)) (by kernel_rfl) (zxs hc hx))
abbrev RS (i q:Int) (r:List Tk) (j:Nat) (x:Str):Prop:=resR (rR 100 (smF j) [.gref 729] ((zqa i (smW j)++tokW x q::r).map Item.tk))=some (.tup (smT j),[],0,(smW j).length,(tokW x q::r).map .tk,nmA)
theorem r_small (i q:Int) (r:List Tk):∀ j x,j < 9→x∈H7→RS i q r j x:=λ j x hc hx=>
 zx6 (g:=resR) (zqx (F:=λ i0:Nat × Str=>resR (rF 100 (smF i0.1) [.gref 729] ((zqa i (smW i0.1)++tokW i0.2 q::r).map Item.tk))) (G:=λ i0=>some (.tup (smT i0.1),[],0,(smW i0.1).length,(tokW i0.2 q::r).map .tk,nmA)) (l:=ixC 9 H7) (a:=(j,x)) (by kernel_rfl) (zxs hc hx))
theorem r_b1 (i q:Int) (l:List Tk) (t:List AV) (r:List Item):∀ h x,h < 4→x∈H3→resR (rR 50 729 [] (.sub (hF h) (tokW (hW h) i) l (.inl (.tup t))::.tk (tokW x q)::r))=some (.tup [.tup t],[],1,0,.tk (tokW x q)::r,nmA):=λ h x hh hx=>
 zx6 (g:=resR) (zqx (F:=λ i0:Nat × Str=>resR (rF 50 729 [] (.sub (hF i0.1) (tokW (hW i0.1) i) l (.inl (.tup t))::.tk (tokW i0.2 q)::r))) (G:=λ i0=>some (.tup [.tup t],[],1,0,.tk (tokW i0.2 q)::r,nmA)) (l:=ixC 4 H3) (a:=(h,x)) (by kernel_rfl) (zxs hh hx))
theorem r_b2 (i j q:Int) (l l':List Tk) (t t':List AV) (r:List Item):∀ h h' x,h < 4→h' < 4→x∈H3→resR (rR 50 729 [] (.sub (hF h) (tokW (hW h) i) l (.inl (.tup t))::.sub (hF h') (tokW (hW h') j) l' (.inl (.tup t'))::.tk (tokW x q)::r))=some (.tup [.tup t,.tup t'],[],2,0,.tk (tokW x q)::r,nmA):=λ h h' x hh hh' hx=>
 zx6 (g:=resR) (zqx (F:=λ i0:Nat × Nat × Str=>resR (rF 50 729 [] (.sub (hF i0.1) (tokW (hW i0.1) i) l (.inl (.tup t))::.sub (hF i0.2.1) (tokW (hW i0.2.1) j) l' (.inl (.tup t'))::.tk (tokW i0.2.2 q)::r))) (G:=λ i0=>some (.tup [.tup t,.tup t'],[],2,0,.tk (tokW i0.2.2 q)::r,nmA)) (l:=ixC 4 (ixC 4 H3)) (a:=(h,h',x)) (by kernel_rfl) (zxs hh (zxs hh' hx)))
theorem r_x1 (i x:Int) (l:List Tk) (r:List Item):excR (rR 50 729 [] (.sub 405 (tokW "IF" i) l (.inr x)::r))=some x:=by rw [rR_eq];kernel_rfl
theorem r_x2 (i j x:Int) (l l':List Tk) (t:List AV) (r:List Item):∀ h,h < 4→excR (rR 50 729 [] (.sub (hF h) (tokW (hW h) i) l (.inl (.tup t))::.sub 405 (tokW "IF" j) l' (.inr x)::r))=some x:=λ h hh=>
 zx6 (g:=excR) (zqx (F:=λ i0:Nat=>excR (rF 50 729 [] (.sub (hF i0) (tokW (hW i0) i) l (.inl (.tup t))::.sub 405 (tokW "IF" j) l' (.inr x)::r))) (G:=λ i0=>some x) (l:=List.range 4) (a:=h) (by kernel_rfl) (List.mem_range.mpr hh))
noncomputable abbrev ifI (i i2:Int) (h1:Tk) (l1:List Tk) (c1:List AV) (t:Nat) (r:List Item):List Item:=.tk (tokW "IF" i)::.sub 384 h1 l1 (.inl (.tup c1))::((zqa i2 (thW t)).map .tk++r)
section
variable (i i2 i3 i4 i6 x:Int) (h1 h5 tn:Tk) (l1 l3 l5:List Tk) (c1 y1 y2 n1 n2:List AV) (r:List Item)
theorem r_ic:∀ h t,h < 4→t < 2→resR (rR 50 405 [.gref 729] (ifI i i2 h1 l1 c1 t (.sub 729 (tokW (hW h) i3) l3 (.inl (.tup (.tup y1::y2)))::.tk (tokW endW i4)::.tk tn::r)))=some (.tup [.str "if",.tup c1,.tup (.tup y1::y2),.tup []],[],2,1,.tk tn::r,nmA):=λ h t hh ht=>
 zx6 (g:=resR) (zqx (F:=λ i0:Nat × Nat=>resR (rF 50 405 [.gref 729] (ifI i i2 h1 l1 c1 i0.2 (.sub 729 (tokW (hW i0.1) i3) l3 (.inl (.tup (.tup y1::y2)))::.tk (tokW endW i4)::.tk tn::r)))) (G:=λ i0=>some (.tup [.str "if",.tup c1,.tup (.tup y1::y2),.tup []],[],2,1,.tk tn::r,nmA)) (l:=ix2 4 2) (a:=(h,t)) (by kernel_rfl) (zx4 hh ht))
theorem r_io:∀ h t,h < 4→t < 2→resR (rR 50 405 [.gref 729] (ifI i i2 h1 l1 c1 t (.sub 729 (tokW (hW h) i3) l3 (.inl (.tup (.tup y1::y2)))::.tk (tokW "." i4)::r)))=some (.tup [.str "if",.tup c1,.tup (.tup y1::y2),.tup []],[],2,0,.tk (tokW "." i4)::r,nmA):=λ h t hh ht=>
 zx6 (g:=resR) (zqx (F:=λ i0:Nat × Nat=>resR (rF 50 405 [.gref 729] (ifI i i2 h1 l1 c1 i0.2 (.sub 729 (tokW (hW i0.1) i3) l3 (.inl (.tup (.tup y1::y2)))::.tk (tokW "." i4)::r)))) (G:=λ i0=>some (.tup [.str "if",.tup c1,.tup (.tup y1::y2),.tup []],[],2,0,.tk (tokW "." i4)::r,nmA)) (l:=ix2 4 2) (a:=(h,t)) (by kernel_rfl) (zx4 hh ht))
theorem r_ec:∀ h t,h < 4→t < 2→resR (rR 50 405 [.gref 729] (ifI i i2 h1 l1 c1 t (.sub 729 (tokW (hW h) i3) l3 (.inl (.tup (.tup y1::y2)))::.tk (tokW zqj i4)::.sub 729 h5 l5 (.inl (.tup (.tup n1::n2)))::.tk (tokW endW i6)::.tk tn::r)))=some (.tup [.str "if",.tup c1,.tup (.tup y1::y2),.tup (.tup n1::n2)],[],3,1,.tk tn::r,nmA):=λ h t hh ht=>
 zx6 (g:=resR) (zqx (F:=λ i0:Nat × Nat=>resR (rF 50 405 [.gref 729] (ifI i i2 h1 l1 c1 i0.2 (.sub 729 (tokW (hW i0.1) i3) l3 (.inl (.tup (.tup y1::y2)))::.tk (tokW zqj i4)::.sub 729 h5 l5 (.inl (.tup (.tup n1::n2)))::.tk (tokW endW i6)::.tk tn::r)))) (G:=λ i0=>some (.tup [.str "if",.tup c1,.tup (.tup y1::y2),.tup (.tup n1::n2)],[],3,1,.tk tn::r,nmA)) (l:=ix2 4 2) (a:=(h,t)) (by kernel_rfl) (zx4 hh ht))
theorem r_eo:∀ h t,h < 4→t < 2→resR (rR 50 405 [.gref 729] (ifI i i2 h1 l1 c1 t (.sub 729 (tokW (hW h) i3) l3 (.inl (.tup (.tup y1::y2)))::.tk (tokW zqj i4)::.sub 729 h5 l5 (.inl (.tup (.tup n1::n2)))::.tk (tokW "." i6)::r)))=some (.tup [.str "if",.tup c1,.tup (.tup y1::y2),.tup (.tup n1::n2)],[],3,0,.tk (tokW "." i6)::r,nmA):=λ h t hh ht=>
 zx6 (g:=resR) (zqx (F:=λ i0:Nat × Nat=>resR (rF 50 405 [.gref 729] (ifI i i2 h1 l1 c1 i0.2 (.sub 729 (tokW (hW i0.1) i3) l3 (.inl (.tup (.tup y1::y2)))::.tk (tokW zqj i4)::.sub 729 h5 l5 (.inl (.tup (.tup n1::n2)))::.tk (tokW "." i6)::r)))) (G:=λ i0=>some (.tup [.str "if",.tup c1,.tup (.tup y1::y2),.tup (.tup n1::n2)],[],3,0,.tk (tokW "." i6)::r,nmA)) (l:=ix2 4 2) (a:=(h,t)) (by kernel_rfl) (zx4 hh ht))
theorem r_xt:excR (rR 50 405 [.gref 729] (ifI i i2 h1 l1 c1 0 (.tk (tokW endW i4)::r)))=some (i4 + 1):=by rw [rR_eq];kernel_rfl
theorem r_xy:∀ h t,h < 4→t < 2→excR (rR 50 405 [.gref 729] (ifI i i2 h1 l1 c1 t (.sub 729 (tokW (hW h) i3) l3 (.inr x)::r)))=some x:=λ h t hh ht=>
 zx6 (g:=excR) (zqx (F:=λ i0:Nat × Nat=>excR (rF 50 405 [.gref 729] (ifI i i2 h1 l1 c1 i0.2 (.sub 729 (tokW (hW i0.1) i3) l3 (.inr x)::r)))) (G:=λ i0=>some x) (l:=ix2 4 2) (a:=(h,t)) (by kernel_rfl) (zx4 hh ht))
theorem r_xe:∀ h t,h < 4→t < 2→excR (rR 50 405 [.gref 729] (ifI i i2 h1 l1 c1 t (.sub 729 (tokW (hW h) i3) l3 (.inl (.tup (.tup y1::y2)))::.tk (tokW zqj i4)::.tk (tokW endW i6)::r)))=some (i6 + 1):=λ h t hh ht=>
 zx6 (g:=excR) (zqx (F:=λ i0:Nat × Nat=>excR (rF 50 405 [.gref 729] (ifI i i2 h1 l1 c1 i0.2 (.sub 729 (tokW (hW i0.1) i3) l3 (.inl (.tup (.tup y1::y2)))::.tk (tokW zqj i4)::.tk (tokW endW i6)::r)))) (G:=λ i0=>some (i6 + 1)) (l:=ix2 4 2) (a:=(h,t)) (by kernel_rfl) (zx4 hh ht))
theorem r_xn:∀ h t,h < 4→t < 2→excR (rR 50 405 [.gref 729] (ifI i i2 h1 l1 c1 t (.sub 729 (tokW (hW h) i3) l3 (.inl (.tup (.tup y1::y2)))::.tk (tokW zqj i4)::.sub 729 h5 l5 (.inr x)::r)))=some x:=λ h t hh ht=>
 zx6 (g:=excR) (zqx (F:=λ i0:Nat × Nat=>excR (rF 50 405 [.gref 729] (ifI i i2 h1 l1 c1 i0.2 (.sub 729 (tokW (hW i0.1) i3) l3 (.inl (.tup (.tup y1::y2)))::.tk (tokW zqj i4)::.sub 729 h5 l5 (.inr x)::r)))) (G:=λ i0=>some x) (l:=ix2 4 2) (a:=(h,t)) (by kernel_rfl) (zx4 hh ht))
end
end
section
mutual
noncomputable def hS:Sx→Nat
 | .sm _=>1
 | .iff _ _ y _=>hB y + 1
 | .ife _ _ y n _=>max (hB y) (hB n) + 1
noncomputable def hB:Bx→Nat
 | .one s=>hS s + 1
 | .two s s'=>max (hS s) (hS s') + 1
end
noncomputable abbrev NN (k:Nat):Nat:=50 * k + 50 + 70
theorem NN_s (k:Nat):NN k + 50≤NN (k + 1):=by unfold NN;omega
theorem NN_le {k k':Nat}(h:k≤k'):NN k≤NN k':=by unfold NN;omega
noncomputable def zqi (P:Nat→List Tk→(AV ⊕ Int)→List Tk→Prop):List Item→Prop
 | []=>True
 | .tk _::r=>zqi P r
 | .sub f hd tl o::r=>P f (hd::tl) o (flat r)∧zqi P r
theorem zqi.tks {P}:∀ (l:List Tk) {r:List Item},zqi P r→zqi P (l.map .tk++r)
 | [],_,h=>h
 | _::l,_,h=>zqi.tks l h
theorem zqi.tk {P} (l:List Tk):zqi P (l.map .tk):=by
 have:=zqi.tks (P:=P) l (r:=[]) trivial
 simpa using this
theorem zqi.all {P}:∀ {rest:List Item},zqi P rest→∀ pre f hd tl o post,rest=pre++Item.sub f hd tl o::post→P f (hd::tl) o (flat post)
 | .tk _::r,h,[],f,hd,tl,o,post,q=>by cases q
 | .sub ..::r,h,[],f,hd,tl,o,post,q=>by cases q;exact h.1
 | .tk _::r,h,_::pre,f,hd,tl,o,post,q=>by cases q;exact zqi.all (rest:=_++_) h _ _ _ _ _ _ rfl
 | .sub ..::r,h,_::pre,f,hd,tl,o,post,q=>by cases q;exact zqi.all (rest:=_++_) h.2 _ _ _ _ _ _ rfl
 | [],_,pre,f,hd,tl,o,post,q=>by cases pre<;>cases q
theorem zqh (t:Tk) (l:List Item):flat (.tk t::l)=t::flat l:=rfl
theorem zqp (f:Nat) (t:Tk) (tl:List Tk) (o:AV ⊕ Int) (l:List Item):flat (.sub f t tl o::l)=t::(tl++flat l):=rfl
theorem zxb:∀ (l:List Tk) (r:List Item),flat (l.map .tk++r)=l++flat r
 | [],_=>rfl
 | t::l,r=>by rw [List.map_cons,List.cons_append,zqh,zxb l r];rfl
section
variable {w:World}{p:Program}{loose:List Str}{mg mb:Str→Option Value}
theorem blk_simple {f e k:Nat}{toks post:List Tk}{v:AV}(h:resR (rR 100 f (xtra f) ((toks++post).map .tk))=some (v,[],e,k,post.map .tk,nmA)) (hx:zqc (.hnd 0::xtra f)=true) (hv:Pure v) :
  BlkK w p loose mg mb (NN 1) f toks (.inl v) post:=by
 obtain ⟨junk,hj⟩:=resR_ex h
 exact blk_ok (D:=0) (K:=100) (rest:=(toks++post).map .tk) (zqd _) (zqi.all (zqi.tk _)) hx hj (zqd _) hv
theorem zjt {k e k' f:Nat}{toks post:List Tk}{rest rest':List Item}{v:AV}(h:resR (rR 50 f (xtra f) rest)=some (v,[],e,k',rest',nmA)) (hf:flat rest=toks++post)
  (hU:zqi (BlkK w p loose mg mb (NN k)) rest) (hx:zqc (.hnd 0::xtra f)=true) (hpost:flat rest'=post) (hv:Pure v):BlkK w p loose mg mb (NN (k + 1)) f toks (.inl v) post:=by
 obtain ⟨junk,hj⟩:=resR_ex h
 exact Blk.le (NN_s k) (blk_ok (D:=50 * k + 50) (K:=50) hf hU.all hx hj hpost hv)
theorem zzq {k f:Nat}{toks post:List Tk}{rest:List Item}{x:Int}(h:excR (rR 50 f (xtra f) rest)=some x) (hf:flat rest=toks++post)
  (hU:zqi (BlkK w p loose mg mb (NN k)) rest) (hx:zqc (.hnd 0::xtra f)=true):BlkK w p loose mg mb (NN (k + 1)) f toks (.inr x) post:=
 Blk.le (NN_s k) (blk_exc (D:=50 * k + 50) (K:=50) hf hU.all hx (excR_ex h))
theorem zqv:∀ l:List Str,zq4 (l.map .str)
 | []=>.nil
 | x::r=>.cons (.str x) (zqv r)
theorem pure_aA:Pure aA:=.tup (.cons (.str _) (.cons (.str _) (.cons (.tup .nil) (.cons (.tup .nil) (.cons .none .nil)))))
theorem pure_aB:Pure aB:=.tup (.cons (.str _) (.cons (.str _) (.cons (.tup (.cons (.str _) .nil)) (.cons (.tup .nil) (.cons .none .nil)))))
theorem pure_aT:Pure aT:=.tup (.cons (.str _) (.cons (.str _) (.cons (.tup .nil) (.cons (.tup (.cons (.tup (.cons (.str _) (.cons (.tup (.cons (.int _) (.cons (.int _) .nil))) .nil))) .nil)) (.cons .none .nil)))))
theorem pure_aO:Pure aOne:=.tup (.cons (.str _) (.cons (.tup (.cons (.int _) (.cons (.int _) .nil))) .nil))
theorem zkj {a:AV}(h:Pure a):zq4 (depT a):=.cons (.str _) (.cons (.tup (.cons (.tup (.cons (.str _) (.cons (.str _) .nil))) (.cons (.tup (.cons (.str _) (.cons (.str _) .nil))) .nil))) (.cons h .nil))
theorem zka:∀ j,zq4 (smT j)
 | 0 | 1=>.cons (.str _) (.cons (.tup (.cons (.str _) (.cons (.str _) .nil))) .nil)
 | 2=>zkj pure_aA
 | 3 | 5=>zkj pure_aB
 | 4=>zkj pure_aT
 | 6 | 7 | 8=>.cons (.str _) .nil
 | _ + 9=>.cons (.str _) .nil
theorem zx1:∀ c,zq4 (cT c)
 | 0=>.cons (.str _) (.cons (.str _) (.cons pure_aA (.cons pure_aO .nil)))
 | 1=>.cons (.str _) (.cons (.str _) (.cons pure_aT (.cons pure_aA .nil)))
 | 2=>.cons (.str _) (.cons (.tup (.cons (.str _) (.cons (.str _) (.cons (.tup .nil) (.cons (.tup .nil) (.cons .none .nil)))))) .nil)
 | _ + 3=>.cons (.str _) (.cons (.tup (.cons (.str _) (.cons (.str _) (.cons pure_aA .nil)))) (.cons (.tup (.cons (.str _) (.cons (.tup (.cons (.str _) (.cons (.tup (.cons (.str _) (.cons (.str _) (.cons (.tup .nil) (.cons (.tup .nil) (.cons .none .nil)))))) .nil))) .nil))) .nil))
mutual
theorem zz7:∀ s:Sx,zq4 (trS s)
 | .sm j=>zka j
 | .iff c _ y _=>.cons (.str _) (.cons (.tup (zx1 c)) (.cons (.tup (zxo y)) (.cons (.tup .nil) .nil)))
 | .ife c _ y n _=>.cons (.str _) (.cons (.tup (zx1 c)) (.cons (.tup (zxo y)) (.cons (.tup (zxo n)) .nil)))
theorem zxo:∀ b:Bx,zq4 (trB b)
 | .one s=>.cons (.tup (zz7 s)) .nil
 | .two s s'=>.cons (.tup (zz7 s)) (.cons (.tup (zz7 s')) .nil)
end
theorem cond_blk {c:Nat}(hc:c < 4) {x:Str}(hx:x∈H5) (i q:Int) (r:List Tk):BlkK w p loose mg mb (NN 1) 384 (zqa i (cW c)) (.inl (.tup (cT c))) (tokW x q::r):=
 blk_simple (r_cond i q r c x hc hx) rfl (.tup (zx1 c))
theorem lt2 {n:Nat}(h:n < 2):n=0∨n=1:=(Nat.lt_succ_iff_lt_or_eq.mp h).imp Nat.lt_one_iff.mp id
theorem lt3 {n:Nat}(h:n < 3):n=0∨n=1∨n=2:=(Nat.lt_succ_iff_lt_or_eq.mp h).elim (λ h=>(lt2 h).imp id .inl) (λ h=>.inr (.inr h))
theorem lt4 {n:Nat}(h:n < 4):n=0∨n=1∨n=2∨n=3:=(Nat.lt_succ_iff_lt_or_eq.mp h).elim (λ h=>(lt3 h).imp id (.imp id .inl)) (λ h=>.inr (.inr (.inr h)))
theorem lt5 {n:Nat}(h:n < 5):n=0∨n=1∨n=2∨n=3∨n=4:=(Nat.lt_succ_iff_lt_or_eq.mp h).elim (λ h=>(lt4 h).imp id (.imp id (.imp id .inl))) (λ h=>.inr (.inr (.inr (.inr h))))
theorem lt6 {n:Nat}(h:n < 6):n=0∨n=1∨n=2∨n=3∨n=4∨n=5:=(Nat.lt_succ_iff_lt_or_eq.mp h).elim (λ h=>(lt5 h).imp id (.imp id (.imp id (.imp id .inl)))) (λ h=>.inr (.inr (.inr (.inr (.inr h)))))
theorem lt7 {n:Nat}(h:n < 7):n=0∨n=1∨n=2∨n=3∨n=4∨n=5∨n=6:=(Nat.lt_succ_iff_lt_or_eq.mp h).elim (λ h=>(lt6 h).imp id (.imp id (.imp id (.imp id (.imp id .inl))))) (λ h=>.inr (.inr (.inr (.inr (.inr (.inr h))))))
theorem lt8 {n:Nat}(h:n < 8):n=0∨n=1∨n=2∨n=3∨n=4∨n=5∨n=6∨n=7:=(Nat.lt_succ_iff_lt_or_eq.mp h).elim (λ h=>(lt7 h).imp id (.imp id (.imp id (.imp id (.imp id (.imp id .inl)))))) (λ h=>.inr (.inr (.inr (.inr (.inr (.inr (.inr h)))))))
theorem lt9 {n:Nat}(h:n < 9):n=0∨n=1∨n=2∨n=3∨n=4∨n=5∨n=6∨n=7∨n=8:=(Nat.lt_succ_iff_lt_or_eq.mp h).elim (λ h=>(lt8 h).imp id (.imp id (.imp id (.imp id (.imp id (.imp id (.imp id .inl))))))) (λ h=>.inr (.inr (.inr (.inr (.inr (.inr (.inr (.inr h))))))))
theorem smx (j:Nat) (hj:j < 9):xtra (smF j)=[.gref 729]:=by
 obtain rfl | rfl | rfl | rfl | rfl | rfl | rfl | rfl | rfl:j=0∨j=1∨j=2∨j=3∨j=4∨j=5∨j=6∨j=7∨j=8:=lt9 hj
 all_goals rfl
theorem small_blk {j:Nat}(hj:j < 9) {x:Str}(hx:x∈H7) (i q:Int) (r:List Tk):BlkK w p loose mg mb (NN 1) (smF j) (zqa i (smW j)) (.inl (.tup (smT j))) (tokW x q::r):=
 blk_simple (by rw [smx j hj];exact r_small i q r j x hj hx) (by rw [smx j hj];rfl) (.tup (zka j))
noncomputable def RdS (w:World) (p:Program) (loose:List Str) (mg mb:Str→Option Value) (k f:Nat) (l:List Str) (t:List AV) (H:List Str):Prop:=
 ∀ h∈H,∀ (i q:Int) (r:List Tk),BlkK w p loose mg mb (NN k) f (zqa i l) (.inl (.tup t)) (tokW h q::r)
noncomputable def FtS (w:World) (p:Program) (loose:List Str) (mg mb:Str→Option Value) (k f:Nat) (l:List Str):Prop:=
 ∀ (i:Int) (r:List Tk),BlkK w p loose mg mb (NN k) f (zqa i (l++[endW])) (.inr (i + l.length + 1)) r
theorem RdS.le {k k' f:Nat}{l:List Str}{t:List AV}{H:List Str}(hk:k≤k') (h:RdS w p loose mg mb k f l t H):RdS w p loose mg mb k' f l t H:=
 λ x hx i q r=>Blk.le (NN_le hk) (h x hx i q r)
theorem FtS.le {k k' f:Nat}{l:List Str}(hk:k≤k') (h:FtS w p loose mg mb k f l):FtS w p loose mg mb k' f l:=
 λ i r=>Blk.le (NN_le hk) (h i r)
theorem rd_one {k h:Nat}{tl:List Str}{t:List AV}(hh:h < 4) (hp:zq4 t) {H:List Str}(hH:∀ x∈H,x∈H3) (h1:RdS w p loose mg mb k (hF h) (hW h::tl) t H):RdS w p loose mg mb (k + 1) 729 (hW h::tl) [.tup t] H:=λ x hx i q r=>
 zjt (r_b1 i q (zqa (i + 1) tl) t (r.map .tk) h x hh (hH x hx)) (by simp [zqh,zqp,zqd,zqa]) ⟨by rw [zqh,zqd];exact h1 x hx i q r,zqi.tk r⟩ rfl (by rw [zqh,zqd]) (.tup (.cons (.tup hp) .nil))
theorem rd_two {k h h':Nat}{tl tl':List Str}{t t':List AV}(hh:h < 4) (hh':h' < 4) (hp:zq4 t) (hp':zq4 t') (h1:RdS w p loose mg mb k (hF h) (hW h::tl) t H7) {H:List Str}(hH:∀ x∈H,x∈H3) (h2:RdS w p loose mg mb k (hF h') (hW h'::tl') t' H) :
  RdS w p loose mg mb (k + 1) 729 ((hW h::tl)++(hW h'::tl')) [.tup t,.tup t'] H:=λ x hx i q r=>by
 have b2:=h2 x hx (i + (hW h::tl).length) q r
 have b1:=h1 _ (hW_7 hh') i (i + (hW h::tl).length) (zqa (i + (hW h::tl).length + 1) tl'++tokW x q::r)
 rw [zqk]
 refine zjt (r_b2 i (i + (hW h::tl).length) q (zqa (i + 1) tl) (zqa (i + (hW h::tl).length + 1) tl') t t' (r.map .tk) h h' x hh hh' (hH x hx)) (by simp [zqh,zqp,zqd,zqa]) ⟨?_,?_,zqi.tk r⟩ rfl (by rw [zqh,zqd]) (.tup (.cons (.tup hp) (.cons (.tup hp') .nil)))
 ·simp only [zqh,zqp,zqd];exact b1
 ·rw [zqh,zqd];exact b2
theorem ft_one {k:Nat}{tl:List Str}(h:FtS w p loose mg mb k 405 (("IF":Str)::tl)):FtS w p loose mg mb (k + 1) 729 (("IF":Str)::tl):=λ i r=>
 zzq (r_x1 i _ (zqa (i + 1) (tl++[endW])) (r.map .tk)) (by simp [zqp,zqd,zqa]) ⟨by rw [zqd];exact h i r,zqi.tk r⟩ rfl
theorem ft_snd {k h:Nat}{tl l':List Str}{t:List AV}(hh:h < 4) (h1:RdS w p loose mg mb k (hF h) (hW h::tl) t H7) (h2:FtS w p loose mg mb k 405 (("IF":Str)::l')):FtS w p loose mg mb (k + 1) 729 ((hW h::tl)++("IF":Str)::l'):=λ i r=>by
 have b2:=h2 (i + (hW h::tl).length) r
 have b1:=h1 "IF" (by decide) i (i + (hW h::tl).length) (zqa (i + (hW h::tl).length + 1) (l'++[endW])++r)
 have e:i + (((hW h::tl)++("IF":Str)::l').length:Int) + 1=i + (hW h::tl).length + ((("IF":Str)::l').length:Int) + 1:=by simp;omega
 rw [e,List.append_assoc,zqk]
 refine zzq (r_x2 i (i + (hW h::tl).length) _ (zqa (i + 1) tl) (zqa (i + (hW h::tl).length + 1) (l'++[endW])) t (r.map .tk) h hh) (by simp [zqp,zqd,zqa]) ⟨?_,?_,zqi.tk r⟩ rfl
 ·simp only [zqp,zqd];exact b1
 ·rw [zqd];exact b2
end
end
section
noncomputable abbrev ifW:Str := "IF"
noncomputable abbrev zjh:Str := "THEN"
mutual
inductive PfS:Sx→List Str→Prop
 | th {c y cl}:PfS (.iff c 0 y cl) (ifW::(cW c++[zjh]))
 | y {c t y cl l}:PfB y l→PfS (.iff c t y cl) (ifW::(cW c++(thW t++l)))
 | the {c y n cl}:PfS (.ife c 0 y n cl) (ifW::(cW c++[zjh]))
 | ye {c t y n cl l}:PfB y l→PfS (.ife c t y n cl) (ifW::(cW c++(thW t++l)))
 | el {c t y n cl}:PfS (.ife c t y n cl) (ifW::(cW c++(thW t++(cwB y++[zqj]))))
 | no {c t y n cl l}:PfB n l→PfS (.ife c t y n cl) (ifW::(cW c++(thW t++(cwB y++(zqj::l)))))
inductive PfB:Bx→List Str→Prop
 | one {s l}:PfS s l→PfB (.one s) l
 | fst {s s' l}:PfS s l→PfB (.two s s') l
 | snd {s s' l}:PfS s' l→PfB (.two s s') (cwS s++l)
end
end
section
section
variable {w:World}{p:Program}{loose:List Str}{mg mb:Str→Option Value}
theorem cW_ne (c:Nat):∃ a b,cW c=a::b:=by unfold cW;split<;>exact ⟨_,_,rfl⟩
theorem zzf (i:Int) (c t:Nat) (l:List Str):∃ h1 l1,zqa (i + 1) (cW c)=h1::l1∧zqa i (("IF":Str)::(cW c++(thW t++l)))=tokW "IF" i::(h1::(l1++(zqa (i + 1 + (cW c).length) (thW t)++zqa (i + 1 + (cW c).length + (thW t).length) l))):=by
 obtain ⟨a,b,e⟩:=cW_ne c
 refine ⟨_,_,by rw [e];rfl,?_⟩
 rw [e]
 simp only [zqa,List.cons_append,zqk,List.length_cons]
 have:i + 1 + 1 + (b.length:Int)=i + 1 + ((b.length + 1:Nat):Int):=by push_cast;omega
 rw [this]
theorem zz0 {c t h k:Nat}(hc:c < 4) (ht:t < 2) (hh:h < 4) (hk:1≤k) (i i2 i3:Int) (r:List Tk):BlkK w p loose mg mb (NN k) 384 (zqa i (cW c)) (.inl (.tup (cT c))) (zqa i2 (thW t)++tokW (hW h) i3::r):=by
 refine Blk.le (NN_le hk) ?_
 obtain rfl | rfl:t=0∨t=1:=by omega
 ·exact cond_blk hc (by decide) i i2 _
 ·exact cond_blk hc (hW_5 hh) i i3 _
section
variable {k h c t:Nat}(hh:h < 4) (hc:c < 4) (ht:t < 2) (hk:1≤k) {tl:List Str}{y1 y2:List AV}(hp:zq4 (.tup y1::y2))
include hh hc ht hk hp
theorem rd_if (ih:RdS w p loose mg mb k 729 (hW h::tl) (.tup y1::y2) H3) (i:Int) (tn:Tk) (r:List Tk) :
  BlkK w p loose mg mb (NN (k + 1)) 405 (zqa i (("IF":Str)::(cW c++(thW t++((hW h::tl)++[endW]))))) (.inl (.tup [.str "if",.tup (cT c),.tup (.tup y1::y2),.tup []])) (tn::r):=by
 obtain ⟨h1,l1,e1,e2⟩:=zzf i c t ((hW h::tl)++[endW])
 rw [e2,zqk]
 have b2:=ih endW (by decide) (i + 1 + (cW c).length + (thW t).length) (i + 1 + (cW c).length + (thW t).length + (hW h::tl).length) (tn::r)
 have b1:=zz0 (w:=w) (p:=p) (loose:=loose) (mg:=mg) (mb:=mb) hc ht hh hk (i + 1) (i + 1 + (cW c).length) (i + 1 + (cW c).length + (thW t).length) (zqa (i + 1 + (cW c).length + (thW t).length + 1) tl++tokW endW (i + 1 + (cW c).length + (thW t).length + (hW h::tl).length)::tn::r)
 rw [e1] at b1
 generalize i + 1 + ((cW c).length:Int) + ((thW t).length:Int)=j3 at *
 generalize j3 + ((hW h::tl).length:Int)=j4 at *
 refine zjt (r_ic i (i + 1 + (cW c).length) j3 j4 h1 tn l1 (zqa (j3 + 1) tl) (cT c) y1 y2 (r.map .tk) h t hh ht) (by simp [zqh,zqp,zxb,zqd,zqa]) ⟨?_,zqi.tks _ ⟨?_,zqi.tk r⟩⟩ rfl (by rw [zqh,zqd]) (.tup (.cons (.str _) (.cons (.tup (zx1 c)) (.cons (.tup hp) (.cons (.tup .nil) .nil)))))
 ·simp only [zqh,zqp,zxb,zqd];exact b1
 ·rw [zqh,zqh,zqd];exact b2
theorem rd_if_o (ih:RdS w p loose mg mb k 729 (hW h::tl) (.tup y1::y2) ["."]) (i q:Int) (r:List Tk) :
  BlkK w p loose mg mb (NN (k + 1)) 405 (zqa i (("IF":Str)::(cW c++(thW t++(hW h::tl))))) (.inl (.tup [.str "if",.tup (cT c),.tup (.tup y1::y2),.tup []])) (tokW "." q::r):=by
 obtain ⟨h1,l1,e1,e2⟩:=zzf i c t (hW h::tl)
 rw [e2]
 have b2:=ih "." (by decide) (i + 1 + (cW c).length + (thW t).length) q r
 have b1:=zz0 (w:=w) (p:=p) (loose:=loose) (mg:=mg) (mb:=mb) hc ht hh hk (i + 1) (i + 1 + (cW c).length) (i + 1 + (cW c).length + (thW t).length) (zqa (i + 1 + (cW c).length + (thW t).length + 1) tl++tokW "." q::r)
 rw [e1] at b1
 generalize i + 1 + ((cW c).length:Int) + ((thW t).length:Int)=j3 at *
 refine zjt (r_io i (i + 1 + (cW c).length) j3 q h1 l1 (zqa (j3 + 1) tl) (cT c) y1 y2 (r.map .tk) h t hh ht) (by simp [zqh,zqp,zxb,zqd,zqa]) ⟨?_,zqi.tks _ ⟨?_,zqi.tk r⟩⟩ rfl (by rw [zqh,zqd]) (.tup (.cons (.str _) (.cons (.tup (zx1 c)) (.cons (.tup hp) (.cons (.tup .nil) .nil)))))
 ·simp only [zqh,zqp,zxb,zqd];exact b1
 ·rw [zqh,zqd];exact b2
theorem rd_ife {hw:Str}{tl':List Str}{n1 n2:List AV}(hp':zq4 (.tup n1::n2)) (ih:RdS w p loose mg mb k 729 (hW h::tl) (.tup y1::y2) H3) (ih':RdS w p loose mg mb k 729 (hw::tl') (.tup n1::n2) H3) (i:Int) (tn:Tk) (r:List Tk) :
  BlkK w p loose mg mb (NN (k + 1)) 405 (zqa i (("IF":Str)::(cW c++(thW t++((hW h::tl)++(zqj::((hw::tl')++[endW]))))))) (.inl (.tup [.str "if",.tup (cT c),.tup (.tup y1::y2),.tup (.tup n1::n2)])) (tn::r):=by
 obtain ⟨h1,l1,e1,e2⟩:=zzf i c t ((hW h::tl)++(zqj::((hw::tl')++[endW])))
 rw [e2,zqk]
 simp only [zqa,List.cons_append,zqk]
 generalize i + 1 + ((cW c).length:Int) + ((thW t).length:Int)=j3
 generalize j3 + ((hW h::tl).length:Int)=j4
 generalize j4 + 1 + 1 + (tl'.length:Int)=j5
 have b2:=ih zqj (by decide) j3 j4 (tokW hw (j4 + 1)::(zqa (j4 + 1 + 1) tl'++tokW endW j5::tn::r))
 have b3:=ih' endW (by decide) (j4 + 1) j5 (tn::r)
 have b1:=zz0 (w:=w) (p:=p) (loose:=loose) (mg:=mg) (mb:=mb) hc ht hh hk (i + 1) (i + 1 + (cW c).length) j3 (zqa (j3 + 1) tl++tokW zqj j4::tokW hw (j4 + 1)::(zqa (j4 + 1 + 1) tl'++tokW endW j5::tn::r))
 rw [e1] at b1
 refine zjt (r_ec i (i + 1 + (cW c).length) j3 j4 j5 h1 (tokW hw (j4 + 1)) tn l1 (zqa (j3 + 1) tl) (zqa (j4 + 1 + 1) tl') (cT c) y1 y2 n1 n2 (r.map .tk) h t hh ht) (by simp [zqh,zqp,zxb,zqd,zqa]) ⟨?_,zqi.tks _ ⟨?_,?_,zqi.tk r⟩⟩ rfl (by rw [zqh,zqd]) (.tup (.cons (.str _) (.cons (.tup (zx1 c)) (.cons (.tup hp) (.cons (.tup hp') .nil)))))
 ·simp only [zqh,zqp,zxb,zqd];exact b1
 ·simp only [zqh,zqp,zqd];exact b2
 ·rw [zqh,zqh,zqd];exact b3
theorem rd_ife_o {hw:Str}{tl':List Str}{n1 n2:List AV}(hp':zq4 (.tup n1::n2)) (ih:RdS w p loose mg mb k 729 (hW h::tl) (.tup y1::y2) H3) (ih':RdS w p loose mg mb k 729 (hw::tl') (.tup n1::n2) ["."]) (i q:Int) (r:List Tk) :
  BlkK w p loose mg mb (NN (k + 1)) 405 (zqa i (("IF":Str)::(cW c++(thW t++((hW h::tl)++(zqj::(hw::tl'))))))) (.inl (.tup [.str "if",.tup (cT c),.tup (.tup y1::y2),.tup (.tup n1::n2)])) (tokW "." q::r):=by
 obtain ⟨h1,l1,e1,e2⟩:=zzf i c t ((hW h::tl)++(zqj::(hw::tl')))
 rw [e2,zqk]
 simp only [zqa]
 generalize i + 1 + ((cW c).length:Int) + ((thW t).length:Int)=j3
 generalize j3 + ((hW h::tl).length:Int)=j4
 have b2:=ih zqj (by decide) j3 j4 (tokW hw (j4 + 1)::(zqa (j4 + 1 + 1) tl'++tokW "." q::r))
 have b3:=ih' "." (by decide) (j4 + 1) q r
 have b1:=zz0 (w:=w) (p:=p) (loose:=loose) (mg:=mg) (mb:=mb) hc ht hh hk (i + 1) (i + 1 + (cW c).length) j3 (zqa (j3 + 1) tl++tokW zqj j4::tokW hw (j4 + 1)::(zqa (j4 + 1 + 1) tl'++tokW "." q::r))
 rw [e1] at b1
 refine zjt (r_eo i (i + 1 + (cW c).length) j3 j4 q h1 (tokW hw (j4 + 1)) l1 (zqa (j3 + 1) tl) (zqa (j4 + 1 + 1) tl') (cT c) y1 y2 n1 n2 (r.map .tk) h t hh ht) (by simp [zqh,zqp,zxb,zqd,zqa]) ⟨?_,zqi.tks _ ⟨?_,?_,zqi.tk r⟩⟩ rfl (by rw [zqh,zqd]) (.tup (.cons (.str _) (.cons (.tup (zx1 c)) (.cons (.tup hp) (.cons (.tup hp') .nil)))))
 ·simp only [zqh,zqp,zxb,zqd];exact b1
 ·simp only [zqh,zqp,zqd];exact b2
 ·rw [zqh,zqd];exact b3
omit hp in
theorem ft_y (ih:FtS w p loose mg mb k 729 (hW h::tl)):FtS w p loose mg mb (k + 1) 405 (("IF":Str)::(cW c++(thW t++(hW h::tl)))):=by
 intro i r
 have ex:i + ((("IF":Str)::(cW c++(thW t++(hW h::tl)))).length:Int) + 1=i + 1 + (cW c).length + (thW t).length + (hW h::tl).length + 1:=by simp;omega
 rw [ex]
 simp only [List.cons_append,List.append_assoc]
 obtain ⟨h1,l1,e1,e2⟩:=zzf i c t (hW h::(tl++[endW]))
 rw [e2]
 have b2:=ih (i + 1 + (cW c).length + (thW t).length) r
 have b1:=zz0 (w:=w) (p:=p) (loose:=loose) (mg:=mg) (mb:=mb) hc ht hh hk (i + 1) (i + 1 + (cW c).length) (i + 1 + (cW c).length + (thW t).length) (zqa (i + 1 + (cW c).length + (thW t).length + 1) (tl++[endW])++r)
 rw [e1] at b1
 generalize i + 1 + ((cW c).length:Int) + ((thW t).length:Int)=j3 at *
 generalize j3 + ((hW h::tl).length:Int) + 1=x at *
 refine zzq (r_xy i (i + 1 + (cW c).length) j3 x h1 l1 (zqa (j3 + 1) (tl++[endW])) (cT c) (r.map .tk) h t hh ht) (by simp [zqp,zqh,zxb,zqd,zqa]) ⟨?_,zqi.tks _ ⟨?_,zqi.tk r⟩⟩ rfl
 ·simp only [zqp,zxb,zqd];exact b1
 ·rw [zqd];exact b2
omit hp in
theorem ft_e (ih:RdS w p loose mg mb k 729 (hW h::tl) (.tup y1::y2) H3):FtS w p loose mg mb (k + 1) 405 (("IF":Str)::(cW c++(thW t++((hW h::tl)++[zqj])))):=by
 intro i r
 have ex:i + ((("IF":Str)::(cW c++(thW t++((hW h::tl)++[zqj])))).length:Int) + 1=i + 1 + (cW c).length + (thW t).length + (hW h::tl).length + 1 + 1:=by simp;omega
 rw [ex]
 simp only [List.cons_append,List.append_assoc,List.nil_append]
 obtain ⟨h1,l1,e1,e2⟩:=zzf i c t ((hW h::tl)++[zqj,endW])
 rw [List.cons_append] at e2
 rw [e2,show hW h::(tl++[zqj,endW])=(hW h::tl)++[zqj,endW] from rfl,zqk]
 simp only [zqa]
 generalize i + 1 + ((cW c).length:Int) + ((thW t).length:Int)=j3
 generalize j3 + ((hW h::tl).length:Int)=j4
 have b2:=ih zqj (by decide) j3 j4 (tokW endW (j4 + 1)::r)
 have b1:=zz0 (w:=w) (p:=p) (loose:=loose) (mg:=mg) (mb:=mb) hc ht hh hk (i + 1) (i + 1 + (cW c).length) j3 (zqa (j3 + 1) tl++tokW zqj j4::tokW endW (j4 + 1)::r)
 rw [e1] at b1
 refine zzq (r_xe i (i + 1 + (cW c).length) j3 j4 (j4 + 1) h1 l1 (zqa (j3 + 1) tl) (cT c) y1 y2 (r.map .tk) h t hh ht) (by simp [zqp,zqh,zxb,zqd,zqa]) ⟨?_,zqi.tks _ ⟨?_,zqi.tk r⟩⟩ rfl
 ·simp only [zqh,zqp,zxb,zqd];exact b1
 ·simp only [zqh,zqd];exact b2
omit hp in
theorem ft_n {hw:Str}{tl':List Str}(ih:RdS w p loose mg mb k 729 (hW h::tl) (.tup y1::y2) H3) (ih':FtS w p loose mg mb k 729 (hw::tl')):FtS w p loose mg mb (k + 1) 405 (("IF":Str)::(cW c++(thW t++((hW h::tl)++(zqj::(hw::tl')))))):=by
 intro i r
 have ex:i + ((("IF":Str)::(cW c++(thW t++((hW h::tl)++(zqj::(hw::tl')))))).length:Int) + 1=i + 1 + (cW c).length + (thW t).length + (hW h::tl).length + 1 + (hw::tl').length + 1:=by simp;omega
 rw [ex]
 simp only [List.cons_append,List.append_assoc]
 obtain ⟨h1,l1,e1,e2⟩:=zzf i c t ((hW h::tl)++(zqj::(hw::(tl'++[endW]))))
 rw [List.cons_append] at e2
 rw [e2,show hW h::(tl++zqj::hw::(tl'++[endW]))=(hW h::tl)++(zqj::hw::(tl'++[endW])) from rfl,zqk]
 simp only [zqa]
 generalize i + 1 + ((cW c).length:Int) + ((thW t).length:Int)=j3
 generalize j3 + ((hW h::tl).length:Int)=j4
 have b2:=ih zqj (by decide) j3 j4 (tokW hw (j4 + 1)::(zqa (j4 + 1 + 1) (tl'++[endW])++r))
 have b3:=ih' (j4 + 1) r
 generalize j4 + 1 + ((hw::tl').length:Int) + 1=x at *
 have b1:=zz0 (w:=w) (p:=p) (loose:=loose) (mg:=mg) (mb:=mb) hc ht hh hk (i + 1) (i + 1 + (cW c).length) j3 (zqa (j3 + 1) tl++tokW zqj j4::tokW hw (j4 + 1)::(zqa (j4 + 1 + 1) (tl'++[endW])++r))
 rw [e1] at b1
 refine zzq (r_xn i (i + 1 + (cW c).length) j3 j4 x h1 (tokW hw (j4 + 1)) l1 (zqa (j3 + 1) tl) (zqa (j4 + 1 + 1) (tl'++[endW])) (cT c) y1 y2 (r.map .tk) h t hh ht) (by simp [zqp,zqh,zxb,zqd,zqa]) ⟨?_,zqi.tks _ ⟨?_,?_,zqi.tk r⟩⟩ rfl
 ·simp only [zqh,zqp,zxb,zqd];exact b1
 ·simp only [zqh,zqp,zqd];exact b2
 ·rw [zqd];exact b3
end
theorem ft_th {k c:Nat}(hc:c < 4) (hk:1≤k):FtS w p loose mg mb (k + 1) 405 (("IF":Str)::(cW c++[zjh])):=by
 intro i r
 have ex:i + ((("IF":Str)::(cW c++[zjh])).length:Int) + 1=i + 1 + (cW c).length + (thW 0).length + 1:=by simp [thW];omega
 rw [ex]
 simp only [List.cons_append,List.append_assoc,List.nil_append]
 obtain ⟨h1,l1,e1,e2⟩:=zzf i c 0 [endW]
 have e2:zqa i (("IF":Str)::(cW c++[zjh,endW]))=_:=e2
 rw [e2]
 have b1:BlkK w p loose mg mb (NN k) 384 (zqa (i + 1) (cW c)) (.inl (.tup (cT c))) (tokW "THEN" (i + 1 + (cW c).length)::tokW endW (i + 1 + (cW c).length + (thW 0).length)::r):=Blk.le (NN_le hk) (cond_blk hc (by decide) (i + 1) _ _)
 rw [e1] at b1
 generalize i + 1 + ((cW c).length:Int) + ((thW 0).length:Int)=j3 at *
 refine zzq (r_xt i (i + 1 + (cW c).length) j3 h1 l1 (cT c) (r.map .tk)) (by simp [zqp,zqh,zxb,zqd,zqa]) ⟨?_,zqi.tks _ (zqi.tk r)⟩ rfl
 simp only [zqh,zqp,zxb,zqd];exact b1
end
end
section
noncomputable def fnS:Sx→Nat
 | .sm j=>smF j
 | _=>405
noncomputable def HdW (f:Nat) (l:List Str):Prop:=∃ h tl,h < 4∧f=hF h∧l=hW h::tl
theorem HdW.app {f:Nat}{l r:List Str}(x:HdW f l):HdW f (l++r):=let ⟨h,tl,a,b,c⟩:=x;⟨h,tl++r,a,b,by rw [c];rfl⟩
theorem head_sm (j:Nat) (hj:j < 9):HdW (smF j) (smW j):=by
 obtain rfl | rfl | rfl | rfl | rfl | rfl | rfl | rfl | rfl:j=0∨j=1∨j=2∨j=3∨j=4∨j=5∨j=6∨j=7∨j=8:=lt9 hj
 ·exact ⟨1,_,by decide,rfl,rfl⟩
 ·exact ⟨1,_,by decide,rfl,rfl⟩
 ·exact ⟨1,_,by decide,rfl,rfl⟩
 ·exact ⟨1,_,by decide,rfl,rfl⟩
 ·exact ⟨1,_,by decide,rfl,rfl⟩
 ·exact ⟨1,_,by decide,rfl,rfl⟩
 ·exact ⟨2,_,by decide,rfl,rfl⟩
 ·exact ⟨2,_,by decide,rfl,rfl⟩
 ·exact ⟨3,_,by decide,rfl,rfl⟩
theorem zzz:∀ s:Sx,okS s→HdW (fnS s) (cwS s)
 | .sm j,h=>head_sm j h
 | .iff ..,_=>⟨0,_,by decide,rfl,rfl⟩
 | .ife ..,_=>⟨0,_,by decide,rfl,rfl⟩
theorem zjr:∀ s:Sx,okS s→HdW (fnS s) (owS s)
 | .sm j,h=>head_sm j h
 | .iff ..,_=>⟨0,_,by decide,rfl,rfl⟩
 | .ife ..,_=>⟨0,_,by decide,rfl,rfl⟩
theorem zjs:∀ b:Bx,okB b→∃ f,HdW f (cwB b)
 | .one s,h=>⟨_,zzz s h⟩
 | .two s _,h=>⟨_,(zzz s h.1).app⟩
theorem head_oB:∀ b:Bx,okB b→∃ f,HdW f (owB b)
 | .one s,h=>⟨_,zjr s h⟩
 | .two s _,h=>⟨_,(zjr s h.1).app⟩
theorem zxq:∀ b:Bx,∃ y1 y2,trB b=.tup y1::y2
 | .one _=>⟨_,_,rfl⟩
 | .two _ _=>⟨_,_,rfl⟩
theorem zjb:∀ b:Bx,1≤hB b
 | .one _=>by unfold hB;omega
 | .two _ _=>by unfold hB;omega
section
variable {w:World}{p:Program}{loose:List Str}{mg mb:Str→Option Value}
theorem readS_iff {c t:Nat}{y:Bx}{b:Bool}(IH:okB y→RdS w p loose mg mb (hB y) 729 (cwB y) (trB y) H3) (ok:c < 4∧t < 2∧okB y):RdS w p loose mg mb (hB y + 1) 405 (("IF":Str)::(cW c++(thW t++(cwB y++[endW])))) [.str "if",.tup (cT c),.tup (trB y),.tup []] H7:=λ x _ i q r=>by
 obtain ⟨f,h,tl,a,_,e⟩:=zjs y ok.2.2
 obtain ⟨y1,y2,hy⟩:=zxq y
 have ih:=IH ok.2.2
 have hp:=zxo y
 rw [hy] at ih hp
 rw [e] at ih
 have:=rd_if (p:=p) (w:=w) (loose:=loose) (mg:=mg) (mb:=mb) a ok.1 ok.2.1 (zjb y) hp ih i (tokW x q) r
 rw [hy,e];exact this
theorem readS_ife {c t:Nat}{y n:Bx}{b:Bool}(IH:okB y→RdS w p loose mg mb (hB y) 729 (cwB y) (trB y) H3) (IH':okB n→RdS w p loose mg mb (hB n) 729 (cwB n) (trB n) H3) (ok:c < 4∧t < 2∧okB y∧okB n) :
  RdS w p loose mg mb (max (hB y) (hB n) + 1) 405 (("IF":Str)::(cW c++(thW t++(cwB y++(zqj::(cwB n++[endW])))))) [.str "if",.tup (cT c),.tup (trB y),.tup (trB n)] H7:=λ x _ i q r=>by
 obtain ⟨f,h,tl,a,_,e⟩:=zjs y ok.2.2.1
 obtain ⟨f',h',tl',_,_,e'⟩:=zjs n ok.2.2.2
 obtain ⟨y1,y2,hy⟩:=zxq y
 obtain ⟨n1,n2,hn⟩:=zxq n
 have ih:=IH ok.2.2.1
 have ih':=IH' ok.2.2.2
 have hp:=zxo y
 have hp':=zxo n
 rw [hy] at ih hp
 rw [hn] at ih' hp'
 rw [e] at ih
 rw [e'] at ih'
 have:=rd_ife (p:=p) (w:=w) (loose:=loose) (mg:=mg) (mb:=mb) (k:=max (hB y) (hB n)) a ok.1 ok.2.1 (Nat.le_trans (zjb y) (Nat.le_max_left ..)) hp hp' (ih.le (Nat.le_max_left ..)) (ih'.le (Nat.le_max_right ..)) i (tokW x q) r
 rw [hy,hn,e,e'];exact this
theorem readB_one {s:Sx}{H:List Str}(hH:∀ x∈H,x∈H3) {l:List Str}(hd:HdW (fnS s) l) (ih:RdS w p loose mg mb (hS s) (fnS s) l (trS s) H):RdS w p loose mg mb (hS s + 1) 729 l [.tup (trS s)] H:=by
 obtain ⟨h,tl,a,e,e2⟩:=hd
 rw [e,e2] at ih
 rw [e2]
 exact rd_one a (zz7 s) hH ih
theorem readB_two {s s':Sx}{H:List Str}(hH:∀ x∈H,x∈H3) {l:List Str}(ok:okS s) (hd:HdW (fnS s') l) (ih:RdS w p loose mg mb (hS s) (fnS s) (cwS s) (trS s) H7) (ih':RdS w p loose mg mb (hS s') (fnS s') l (trS s') H):RdS w p loose mg mb (max (hS s) (hS s') + 1) 729 (cwS s++l) [.tup (trS s),.tup (trS s')] H:=by
 obtain ⟨h,tl,a,e,e2⟩:=zzz s ok
 obtain ⟨h',tl',a',e',e2'⟩:=hd
 have ih:=ih.le (Nat.le_max_left (hS s) (hS s'))
 have ih':=ih'.le (Nat.le_max_right (hS s) (hS s'))
 rw [e,e2] at ih
 rw [e',e2'] at ih'
 rw [e2,e2']
 exact rd_two a a' (zz7 s) (zz7 s') ih hH ih'
theorem RdS.h3 {k f:Nat}{l:List Str}{t:List AV}(ih:RdS w p loose mg mb k f l t H7):RdS w p loose mg mb k f l t H3:=λ x hx=>ih x (H3_7 hx)
theorem readSB:(∀ s:Sx,okS s→RdS w p loose mg mb (hS s) (fnS s) (cwS s) (trS s) H7)∧(∀ b:Bx,okB b→RdS w p loose mg mb (hB b) 729 (cwB b) (trB b) H3):=by
 have h1:∀ j,okS (.sm j)→RdS w p loose mg mb (hS (.sm j)) (fnS (.sm j)) (cwS (.sm j)) (trS (.sm j)) H7:=λ j h x hx i q r=>small_blk h hx i q r
 have h4:∀ s,(okS s→RdS w p loose mg mb (hS s) (fnS s) (cwS s) (trS s) H7)→okB (.one s)→RdS w p loose mg mb (hB (.one s)) 729 (cwB (.one s)) (trB (.one s)) H3:=λ s ih h=>readB_one (λ _ h=>h) (zzz s h) (ih h).h3
 have h5:∀ s s',(okS s→RdS w p loose mg mb (hS s) (fnS s) (cwS s) (trS s) H7)→(okS s'→RdS w p loose mg mb (hS s') (fnS s') (cwS s') (trS s') H7)→okB (.two s s')→RdS w p loose mg mb (hB (.two s s')) 729 (cwB (.two s s')) (trB (.two s s')) H3:=λ s s' ih ih' h=>readB_two (λ _ h=>h) h.1 (zzz s' h.2.1) (ih h.1) (ih' h.2.1).h3
 exact ⟨λ s=>Sx.rec (motive_1:=λ s=>okS s→RdS w p loose mg mb (hS s) (fnS s) (cwS s) (trS s) H7) (motive_2:=λ b=>okB b→RdS w p loose mg mb (hB b) 729 (cwB b) (trB b) H3) h1 (λ _ _ _ b=>readS_iff (b:=b)) (λ _ _ _ _ b=>readS_ife (b:=b)) h4 h5 s,
  λ s=>Bx.rec (motive_1:=λ s=>okS s→RdS w p loose mg mb (hS s) (fnS s) (cwS s) (trS s) H7) (motive_2:=λ b=>okB b→RdS w p loose mg mb (hB b) 729 (cwB b) (trB b) H3) h1 (λ _ _ _ b=>readS_iff (b:=b)) (λ _ _ _ _ b=>readS_ife (b:=b)) h4 h5 s⟩
theorem readS (s:Sx):okS s→RdS w p loose mg mb (hS s) (fnS s) (cwS s) (trS s) H7:=readSB.1 s
theorem readB (b:Bx):okB b→RdS w p loose mg mb (hB b) 729 (cwB b) (trB b) H3:=readSB.2 b
noncomputable abbrev HP:List Str:=["."]
theorem HP_3:∀ x∈HP,x∈H3:=λ x hx=>by rw [List.mem_singleton.mp hx];decide
theorem HP_7:∀ x∈HP,x∈H7:=λ x hx=>H3_7 (HP_3 x hx)
theorem closed_of (s:Sx) (h:okS s) (hl:zxd s=0):owS s=cwS s:=by
 have:=closeS s h
 rw [hl] at this
 simpa [ends] using this
theorem RdS.hp {k f:Nat}{l:List Str}{t:List AV}(ih:RdS w p loose mg mb k f l t H7):RdS w p loose mg mb k f l t HP:=λ x hx=>ih x (HP_7 x hx)
theorem readO_iff {c t:Nat}{y:Bx}(IH:okB y→RdS w p loose mg mb (hB y) 729 (owB y) (trB y) HP) (ok:c < 4∧t < 2∧okB y):RdS w p loose mg mb (hB y + 1) 405 (("IF":Str)::(cW c++(thW t++(owB y++[])))) [.str "if",.tup (cT c),.tup (trB y),.tup []] HP:=λ x hx i q r=>by
 obtain ⟨f,h,tl,a,_,e⟩:=head_oB y ok.2.2
 obtain ⟨y1,y2,hy⟩:=zxq y
 have ih:=IH ok.2.2
 have hp:=zxo y
 rw [hy] at ih hp
 rw [e] at ih
 rw [List.mem_singleton.mp hx]
 have:=rd_if_o (p:=p) (w:=w) (loose:=loose) (mg:=mg) (mb:=mb) a ok.1 ok.2.1 (zjb y) hp ih i q r
 rw [hy,e,List.append_nil];exact this
theorem readO_ife {c t:Nat}{y n:Bx}(IH':okB n→RdS w p loose mg mb (hB n) 729 (owB n) (trB n) HP) (ok:c < 4∧t < 2∧okB y∧okB n) :
  RdS w p loose mg mb (max (hB y) (hB n) + 1) 405 (("IF":Str)::(cW c++(thW t++(owB y++(ends (zqy y)++(zqj::(owB n++[]))))))) [.str "if",.tup (cT c),.tup (trB y),.tup (trB n)] HP:=λ x hx i q r=>by
 obtain ⟨f,h,tl,a,_,e⟩:=zjs y ok.2.2.1
 obtain ⟨f',h',tl',_,_,e'⟩:=head_oB n ok.2.2.2
 obtain ⟨y1,y2,hy⟩:=zxq y
 obtain ⟨n1,n2,hn⟩:=zxq n
 have ih:=readB (w:=w) (p:=p) (loose:=loose) (mg:=mg) (mb:=mb) y ok.2.2.1
 have ih':=IH' ok.2.2.2
 have hp:=zxo y
 have hp':=zxo n
 rw [hy] at ih hp
 rw [hn] at ih' hp'
 rw [e] at ih
 rw [e'] at ih'
 rw [List.mem_singleton.mp hx]
 have:=rd_ife_o (p:=p) (w:=w) (loose:=loose) (mg:=mg) (mb:=mb) (k:=max (hB y) (hB n)) a ok.1 ok.2.1 (Nat.le_trans (zjb y) (Nat.le_max_left ..)) hp hp' (ih.le (Nat.le_max_left ..)) (ih'.le (Nat.le_max_right ..)) i q r
 rw [← List.append_assoc (owB y),closeB y ok.2.2.1,hy,hn,e,e',List.append_nil];exact this
theorem readOSB:(∀ s:Sx,okS s→RdS w p loose mg mb (hS s) (fnS s) (owS s) (trS s) HP)∧(∀ b:Bx,okB b→RdS w p loose mg mb (hB b) 729 (owB b) (trB b) HP):=by
 have hc:∀ s,zxd s=0→okS s→RdS w p loose mg mb (hS s) (fnS s) (owS s) (trS s) HP:=λ s e h=>by rw [closed_of s h e];exact (readS s h).hp
 have h2:∀ c t y b,(okB y→RdS w p loose mg mb (hB y) 729 (owB y) (trB y) HP)→okS (.iff c t y b)→RdS w p loose mg mb (hS (.iff c t y b)) (fnS (.iff c t y b)) (owS (.iff c t y b)) (trS (.iff c t y b)) HP:=λ c t y b ih=>by
  cases b
  ·exact readO_iff ih
  ·exact hc _ rfl
 have h3:∀ c t y n b,(okB y→RdS w p loose mg mb (hB y) 729 (owB y) (trB y) HP)→(okB n→RdS w p loose mg mb (hB n) 729 (owB n) (trB n) HP)→okS (.ife c t y n b)→RdS w p loose mg mb (hS (.ife c t y n b)) (fnS (.ife c t y n b)) (owS (.ife c t y n b)) (trS (.ife c t y n b)) HP:=λ c t y n b _ ih=>by
  cases b
  ·exact readO_ife ih
  ·exact hc _ rfl
 have h4:∀ s,(okS s→RdS w p loose mg mb (hS s) (fnS s) (owS s) (trS s) HP)→okB (.one s)→RdS w p loose mg mb (hB (.one s)) 729 (owB (.one s)) (trB (.one s)) HP:=λ s ih h=>readB_one HP_3 (zjr s h) (ih h)
 have h5:∀ s s',(okS s→RdS w p loose mg mb (hS s) (fnS s) (owS s) (trS s) HP)→(okS s'→RdS w p loose mg mb (hS s') (fnS s') (owS s') (trS s') HP)→okB (.two s s')→RdS w p loose mg mb (hB (.two s s')) 729 (owB (.two s s')) (trB (.two s s')) HP:=λ s s' _ ih' h=>by
  show RdS w p loose mg mb (hB (.two s s')) 729 (owS s++owS s') _ HP
  rw [closed_of s h.1 h.2.2]
  exact readB_two HP_3 h.1 (zjr s' h.2.1) (readS s h.1) (ih' h.2.1)
 exact ⟨λ s=>Sx.rec (motive_1:=λ s=>okS s→RdS w p loose mg mb (hS s) (fnS s) (owS s) (trS s) HP) (motive_2:=λ b=>okB b→RdS w p loose mg mb (hB b) 729 (owB b) (trB b) HP) (λ j=>hc _ rfl) h2 h3 h4 h5 s,
  λ s=>Bx.rec (motive_1:=λ s=>okS s→RdS w p loose mg mb (hS s) (fnS s) (owS s) (trS s) HP) (motive_2:=λ b=>okB b→RdS w p loose mg mb (hB b) 729 (owB b) (trB b) HP) (λ j=>hc _ rfl) h2 h3 h4 h5 s⟩
theorem readOS (s:Sx):okS s→RdS w p loose mg mb (hS s) (fnS s) (owS s) (trS s) HP:=readOSB.1 s
theorem readOB (b:Bx):okB b→RdS w p loose mg mb (hB b) 729 (owB b) (trB b) HP:=readOSB.2 b
theorem pf_head:(∀ s l,PfS s l→∃ tl,l=ifW::tl)∧(∀ b l,PfB b l→okB b→∃ f,HdW f l):=by
 have k:∀ {l:List Str},(∃ tl,l=ifW::tl)→∃ f,HdW f l:=λ h=>by obtain ⟨tl,rfl⟩:=h;exact ⟨_,0,_,by decide,rfl,rfl⟩
 have h5:∀ {s s':Sx}{l:List Str},okB (.two s s')→∃ f,HdW f (cwS s++l):=λ {s _ _} ok=>⟨_,(zzz s ok.1).app⟩
 exact ⟨λ s l h=>PfS.rec (motive_1:=λ s l _=>∃ tl,l=ifW::tl) (motive_2:=λ b l _=>okB b→∃ f,HdW f l) ⟨_,rfl⟩ (λ _ _=>⟨_,rfl⟩) ⟨_,rfl⟩ (λ _ _=>⟨_,rfl⟩) ⟨_,rfl⟩ (λ _ _=>⟨_,rfl⟩) (λ _ i _=>k i) (λ _ i _=>k i) (λ _ _=>h5) h,
  λ s l h=>PfB.rec (motive_1:=λ s l _=>∃ tl,l=ifW::tl) (motive_2:=λ b l _=>okB b→∃ f,HdW f l) ⟨_,rfl⟩ (λ _ _=>⟨_,rfl⟩) ⟨_,rfl⟩ (λ _ _=>⟨_,rfl⟩) ⟨_,rfl⟩ (λ _ _=>⟨_,rfl⟩) (λ _ i _=>k i) (λ _ i _=>k i) (λ _ _=>h5) h⟩
theorem pfS_head {s:Sx}{l:List Str}(h:PfS s l):∃ tl,l=ifW::tl:=pf_head.1 s l h
theorem pfB_head {b:Bx}{l:List Str}(h:PfB b l) (ok:okB b):∃ f,HdW f l:=pf_head.2 b l h ok
theorem fault_y {c t:Nat}{y:Bx}{l:List Str}{k:Nat}(hk:hB y≤k) (hp:PfB y l) (ih:okB y→FtS w p loose mg mb (hB y) 729 l) (hc:c < 4) (ht:t < 2) (ok:okB y):FtS w p loose mg mb (k + 1) 405 (ifW::(cW c++(thW t++l))):=by
 obtain ⟨f,h,tl,a,_,e⟩:=pfB_head hp ok
 have ih:=(ih ok).le hk
 rw [e] at ih ⊢
 exact ft_y a hc ht (Nat.le_trans (zjb y) hk) ih
theorem fault_el {c t:Nat}{y:Bx}{k:Nat}(hk:hB y≤k) (hc:c < 4) (ht:t < 2) (ok:okB y):FtS w p loose mg mb (k + 1) 405 (ifW::(cW c++(thW t++(cwB y++[zqj])))):=by
 obtain ⟨f,h,tl,a,_,e⟩:=zjs y ok
 obtain ⟨y1,y2,hy⟩:=zxq y
 have ih:=(readB (w:=w) (p:=p) (loose:=loose) (mg:=mg) (mb:=mb) y ok).le hk
 rw [hy] at ih
 rw [e] at ih ⊢
 exact ft_e a hc ht (Nat.le_trans (zjb y) hk) ih
theorem fault_no {c t:Nat}{y n:Bx}{l:List Str}(hp:PfB n l) (ih:okB n→FtS w p loose mg mb (hB n) 729 l) (hc:c < 4) (ht:t < 2) (ok:okB y) (ok':okB n):FtS w p loose mg mb (max (hB y) (hB n) + 1) 405 (ifW::(cW c++(thW t++(cwB y++(zqj::l))))):=by
 obtain ⟨f,h,tl,a,_,e⟩:=zjs y ok
 obtain ⟨y1,y2,hy⟩:=zxq y
 have i1:=(readB (w:=w) (p:=p) (loose:=loose) (mg:=mg) (mb:=mb) y ok).le (Nat.le_max_left _ (hB n))
 rw [hy] at i1
 obtain ⟨f',h',tl',_,_,e'⟩:=pfB_head hp ok'
 have ih':=(ih ok').le (Nat.le_max_right (hB y) _)
 rw [e] at i1 ⊢
 rw [e'] at ih' ⊢
 exact ft_n a hc ht (Nat.le_trans (zjb y) (Nat.le_max_left ..)) i1 ih'
theorem fault_one {s:Sx}{l:List Str}{k:Nat}(hk:hS s≤k) (hp:PfS s l) (ih:FtS w p loose mg mb (hS s) 405 l):FtS w p loose mg mb (k + 1) 729 l:=by
 obtain ⟨tl,e⟩:=pfS_head hp
 have ih:=ih.le hk
 rw [e] at ih ⊢
 exact ft_one ih
theorem fault_two {s s':Sx}{l:List Str}(hp:PfS s' l) (ok:okS s) (ih:FtS w p loose mg mb (hS s') 405 l):FtS w p loose mg mb (max (hS s) (hS s') + 1) 729 (cwS s++l):=by
 obtain ⟨tl,e⟩:=pfS_head hp
 obtain ⟨h,tl',a,b,e'⟩:=zzz s ok
 have ih:=ih.le (Nat.le_max_right (hS s) _)
 have ih':=(readS (w:=w) (p:=p) (loose:=loose) (mg:=mg) (mb:=mb) s ok).le (Nat.le_max_left _ (hS s'))
 rw [b,e'] at ih'
 rw [e] at ih ⊢
 rw [e']
 exact ft_snd a ih' ih
theorem faultSB:(∀ s l,PfS s l→okS s→FtS w p loose mg mb (hS s) 405 l)∧(∀ b l,PfB b l→okB b→FtS w p loose mg mb (hB b) 729 l):=by
 have h1:∀ {c y cl},okS (.iff c 0 y cl)→FtS w p loose mg mb (hS (.iff c 0 y cl)) 405 (ifW::(cW c++[zjh])):=λ {c y cl} ok=>ft_th ok.1 (zjb y)
 have h2:∀ {c t y cl l},PfB y l→(okB y→FtS w p loose mg mb (hB y) 729 l)→okS (.iff c t y cl)→FtS w p loose mg mb (hS (.iff c t y cl)) 405 (ifW::(cW c++(thW t++l))):=λ hp ih ok=>fault_y (Nat.le_refl _) hp ih ok.1 ok.2.1 ok.2.2
 have h3:∀ {c y n cl},okS (.ife c 0 y n cl)→FtS w p loose mg mb (hS (.ife c 0 y n cl)) 405 (ifW::(cW c++[zjh])):=λ {c y n cl} ok=>ft_th (k:=max (hB y) (hB n)) ok.1 (Nat.le_trans (zjb y) (Nat.le_max_left ..))
 have h4:∀ {c t y n cl l},PfB y l→(okB y→FtS w p loose mg mb (hB y) 729 l)→okS (.ife c t y n cl)→FtS w p loose mg mb (hS (.ife c t y n cl)) 405 (ifW::(cW c++(thW t++l))):=λ hp ih ok=>fault_y (Nat.le_max_left ..) hp ih ok.1 ok.2.1 ok.2.2.1
 have h5:∀ {c t y n cl},okS (.ife c t y n cl)→FtS w p loose mg mb (hS (.ife c t y n cl)) 405 (ifW::(cW c++(thW t++(cwB y++[zqj])))):=λ ok=>fault_el (Nat.le_max_left ..) ok.1 ok.2.1 ok.2.2.1
 have h6:∀ {c t y n cl l},PfB n l→(okB n→FtS w p loose mg mb (hB n) 729 l)→okS (.ife c t y n cl)→FtS w p loose mg mb (hS (.ife c t y n cl)) 405 (ifW::(cW c++(thW t++(cwB y++(zqj::l))))):=λ hp ih ok=>fault_no hp ih ok.1 ok.2.1 ok.2.2.1 ok.2.2.2
 have h7:∀ {s l},PfS s l→(okS s→FtS w p loose mg mb (hS s) 405 l)→okB (.one s)→FtS w p loose mg mb (hB (.one s)) 729 l:=λ hp ih ok=>fault_one (Nat.le_refl _) hp (ih ok)
 have h8:∀ {s s' l},PfS s l→(okS s→FtS w p loose mg mb (hS s) 405 l)→okB (.two s s')→FtS w p loose mg mb (hB (.two s s')) 729 l:=λ hp ih ok=>fault_one (Nat.le_max_left ..) hp (ih ok.1)
 have h9:∀ {s s' l},PfS s' l→(okS s'→FtS w p loose mg mb (hS s') 405 l)→okB (.two s s')→FtS w p loose mg mb (hB (.two s s')) 729 (cwS s++l):=λ hp ih ok=>fault_two hp ok.1 (ih ok.2.1)
 exact ⟨λ s l h=>PfS.rec (motive_1:=λ s l _=>okS s→FtS w p loose mg mb (hS s) 405 l) (motive_2:=λ b l _=>okB b→FtS w p loose mg mb (hB b) 729 l) h1 h2 h3 h4 h5 h6 h7 h8 h9 h,λ s l h=>PfB.rec (motive_1:=λ s l _=>okS s→FtS w p loose mg mb (hS s) 405 l) (motive_2:=λ b l _=>okB b→FtS w p loose mg mb (hB b) 729 l) h1 h2 h3 h4 h5 h6 h7 h8 h9 h⟩
theorem faultS {s:Sx}{l:List Str}(h:PfS s l):okS s→FtS w p loose mg mb (hS s) 405 l:=faultSB.1 s l h
theorem faultB {b:Bx}{l:List Str}(h:PfB b l):okB b→FtS w p loose mg mb (hB b) 729 l:=faultSB.2 b l h
end
end
section
section
variable {prog:Program}{w:World}{K:Frag}{ti:List TabI}{fr:Led}{U:SubP}{c:Cx}{RX:Cx→Led→Int→Value→Shared→Prop}{O:Out}
 {σ:St}{ad:List Ad}{own tb fz:Led}{m:Str→Option Value}{s:Shared}{p:Program}{loose:List Str}{mg mb:Str→Option Value}
theorem sd_forH (hRX:RXm RX) {k n:Nat}{x f:Str}{tp q cp ps:Pos}{e:PySem.Expr}{a:List Stmt}{σ₁:St}(Y:Ok p loose mg mb K c k) (hr:nsIn K mainGlobals "range" = some none) (hf:f = "range") (hk:zxk c.sc f=true) (hs:noStar e=true) (hn:n≤100000)
  (hx:zqt c.sc x=true) (σs:Nat→St)
  (he:Sd (model prog w) U K w.params ti fr RX c ad fz (VR K w.params) (eval e c.env) (ok (.int (Int.ofNat n)) σ₁) s) (I:Inv U K w.params ti fr c σ ad own tb fz m s) (h0:σs 0=σ₁)
  (turn:∀ i,i < n→∀ fr ad' own' tb' fz' m' s',Pre ad ad'→fz⊆fz'→Inv U K w.params ti fr c { σs i with loc:=zza x (.int (Int.ofNat i)) (σs i).loc } ad' own' tb' fz' m' s' →
   Sd (model prog w) U K w.params ti fr RX c ad' fz' (FlR K w.params) (execs a c.env) (ok .next (σs (i + 1))) s') :
  Sd (model prog w) U K w.params ti fr RX c ad fz (FlR K w.params) (exec (.For (.Name x tp) (.Call (.Name f q) [e] [] cp) a [] ps) c.env) (ok .next (σs n)) s:=by
 subst hf
 show wpAny _ _ _ _ _ _
 have hk:c.sc.names.lookup ("range":Str)=some .globalImplicit:=zxj hk
 have hse:starEach [e] c.env=[(false,eval e c.env)]:=zqe hs
 refine wpAny_For ?_ (λ x=>rfl)
 rw [arm_eval_Call_Name']
 refine wpAny_bind (nameX_B I.F Y.X Y.T hr rfl (by decide) ?_ Y.kf hk (by decide))
 rw [hse]
 refine PySem.callWith_type rfl (evalArgs_plain (spliced_cons (wpAny_mono he (λ v s₁ h₁=>spliced_nil ?_) λ _ _ h=>h.elim)))
 obtain ⟨ad₁,own₁,tb₁,fz₁,m₁,a1,a2,I₁,a4⟩:=h₁
 replace a4:=a4.inv;cases a4
 rename_i tk
 show wpAny _ _ (call (.type "range") [.int (Int.ofNat n) tk] []) _ _ _
 refine range1_rows I₁.F I₁.N λ h' tk' t₁ u₁ v₁ hr' F' N' hk'=>?_
 have hsz:Builtin.Range.rangeSize 0 (Int.ofNat n) 1=(n:Int):=by
  unfold Builtin.Range.rangeSize
  rw [if_pos (by decide)]
  by_cases h0:n=0
  ·subst h0;rfl
  ·rw [if_pos (by simp;omega)];simp
 have hsm:Builtin.Range.small 0 (Int.ofNat n) 1=true:=by
  unfold Builtin.Range.small
  rw [hsz]
  simp [Builtin.Range.rangeFitsLong]
  omega
 refine wpAny_pyIter_range hr' hsm ?_
 rw [hsz]
 have hLt:c.L < h'.objs.size:=F'.ns.lt
 have h0':c.h₀.get? h'.objs.size=none:=Heap.get?_none_of_le (Nat.le_trans F'.above (Nat.le_of_lt hLt))
 let it:Nat→Obj:=λ i=>{ cls:=.type "range_iterator",dict:=none,data:=.fields #[rawInt (0 + (i:Nat) * 1),rawInt ((n:Int) - (i:Nat)),rawInt 1],slots:=#[] }
 generalize hA:h'.objs.size=itA at *
 have hpush:(h'.push (it 0)).get? itA=some (it 0):=hA▸Heap.get?_push_size _ rfl
 have I₂:Inv U K w.params ti ((itA,it 0)::fr) c σ₁ ad₁ own₁ tb₁ fz₁ m₁ { s₁ with heap:=h'.push (it 0),toks:=tk' }:=by
  have I₃:Inv U K w.params ti fr c σ₁ ad₁ own₁ tb₁ fz₁ m₁ { s₁ with heap:=h'.push (it 0),toks:=tk' }:=⟨F'.push _,λ q hq=>⟨Heap.get?_push_of_some _ (N' q hq).1,(N' q hq).2⟩,I₁.nd,I₁.ow,I₁.tb,I₁.lo,I₁.og⟩
  exact I₃.frame hpush (Nat.ne_of_gt hLt) h0' λ q hq=>Nat.ne_of_lt (hA▸Heap.lt_size (N' q hq).1)
 have hit0:(it 0:Obj) = { cls:=.type "range_iterator",dict:=none,data:=.fields #[rawInt 0,rawInt (n:Int),rawInt 1] }:=by
  show ({ cls:=_,dict:=_,data:=.fields #[rawInt (0 + ((0:Nat):Int) * 1),rawInt ((n:Int) - ((0:Nat):Int)),rawInt 1],slots:=_ }:Obj)=_
  simp
 rw [← hit0]
 have W:Walks prog w c.A itA [itA] [itA] n (λ i v=>∃ t,v=.int (0 + i * 1) t) (λ i h=>h.get? itA=some (it i)):=Walks.range Y.hh itA 0 1 n
 refine codeAny_mono (codeAny_forLoop (R:=λ r s'=>match r with
   | .ok f=>OkP U K w.params ti fr c ad fz (FlR K w.params) .next (σs n) f s'
   | .error e=>cameBackBy (model prog w) c.A c.env (λ _ _=>False) e s')
  (λ k s'=>∃ i ad' own' tb' fz' m',k=n + 1 - i∧i≤n∧Pre ad ad'∧fz⊆fz'∧Inv U K w.params ti ((itA,it i)::fr) c (σs i) ad' own' tb' fz' m' s') (λ k s' hk=>?_) (n + 1)
  ⟨0,ad₁,own₁,tb₁,fz₁,m₁,rfl,Nat.zero_le _,a1,a2,h0▸I₂⟩ (λ _=>rfl)) λ r s' g=>?_
 ·obtain ⟨i,ad',own',tb',fz',m',rfl,hin,b1,b2,I'⟩:=hk
  have hst':s'.heap.get? itA=some (it i):=(I'.N (itA,it i) (by simp)).1
  have hnot:∀ {h'':Heap},(∀ b o,b∉[itA]→s'.heap.get? b=some o→h''.get? b=some o)→∀ b o,b≠itA→s'.heap.get? b=some o→h''.get? b=some o:=λ hk b o hb e=>hk b o (by simpa using hb) e
  by_cases hlt:i < n
  ·refine W.item i _ _ _ hlt hst' λ v h'' tk'' hP hst'' hk'=>?_
   obtain ⟨tv,rfl⟩:=hP
   have hv:(Value.int (0 + (i:Int) * 1) tv)=.int (Int.ofNat i) tv:=by simp
   rw [hv]
   obtain ⟨I₃,c1,c2,c3⟩:=I'.unframe (s':={ s' with heap:=h'',toks:=tk'' }) (hnot hk')
   have I₄:=I₃.frame (x:=(itA,it (i + 1))) hst'' c1 c2 c3
   have g:=zj9 (RX:=RX) (prog:=prog) (w:=w) (x:=x) (q:=tp) Y.kf I₄ (.int (Int.ofNat i) tv)
   unfold asLoc at g
   rw [hx] at g
   refine wpAny_mono g (λ _ s₃ h₃=>?_) λ _ _ h=>h.elim
   obtain ⟨ad₃,own₃,tb₃,fz₃,m₃,d1,d2,I₅,_⟩:=h₃
   have g2:=turn i hlt _ _ _ _ _ _ _ (b1.trans d1) (λ _ h=>d2 (b2 h)) I₅
   refine wpAny_mono g2 (λ fl'' s₄ h₄=>?_) λ _ _ h=>h.elim
   obtain ⟨ad₄,own₄,tb₄,fz₄,m₄,e1,e2,I₆,e4⟩:=h₄
   replace e4:=e4.inv;cases e4
   exact ⟨n + 1 - (i + 1),by omega,i + 1,ad₄,own₄,tb₄,fz₄,m₄,rfl,hlt,b1.trans (d1.trans e1),λ _ h=>e2 (d2 (b2 h)),I₆⟩
  ·have hi:i=n:=by omega
   subst hi
   refine W.done _ _ _ hst' λ h'' tk'' hk'=>wpAny_execs_nil ?_
   obtain ⟨I₃,_⟩:=I'.unframe (s':={ s' with heap:=h'',toks:=tk'' }) (hnot hk')
   exact ⟨ad',own',tb',fz',m',b1,b2,I₃,.next⟩
 ·cases r with
  | ok f=>exact g
  | error e=>exact g
end
end
section
noncomputable def voc:List Str:=(["IF", "A", "=", "1", "T", "(", "2", ")", "IS", "GREATER", "THAN", "F-1", "NUMERIC", "OR", "NOT", "THEN", "ELSE", "END-IF"]:List Str)++(["GO", "TO", "P-1", "IN", "S-1", "P-2", "OF", "DEPENDING", "ON", "B", "C", "EXIT", "PROGRAM", "STOP", "RUN", "."]:List Str)
noncomputable def bod:List Stmt:=match (topD 75).2.2.1 with | [_,.For _ _ b _ _,_]=>b | _=>[]
noncomputable abbrev sc75:Scope:=(topD 75).2.2.2
noncomputable def tokI (x:Str):HO:=.inst 452 [("kind",.str (kd x)),("worth",.str x),("at",.tup [.int 3,.off 0 0 1]),("is_in_a",.bool false)]
theorem turn_run (b:Bool) (W F:List AV):∀ x∈voc,evSs (run (outL b) 40) sc75 bod ⟨[("words",.hnd 0),("found",.hnd 1),("at",.off 0 0 0)],[.lstf W (.str x),.lst [.sp F 3000]]⟩ =
  some (.ok .next ⟨[("words",.hnd 0),("found",.hnd 1),("at",.off 0 0 0),("kind",.str (kd x))],[.lstf W (.str x),.lst [.sp F 3000,.hnd 2],tokI x]⟩):=by
 intro x hx
 simp only [voc,List.mem_append,List.mem_cons,List.not_mem_nil,or_false,or_assoc] at hx
 rcases hx with rfl | rfl | rfl | rfl | rfl | rfl | rfl | rfl | rfl | rfl | rfl | rfl | rfl | rfl | rfl | rfl | rfl | rfl | rfl | rfl | rfl | rfl | rfl | rfl | rfl | rfl | rfl | rfl | rfl | rfl | rfl | rfl | rfl | rfl<;>kernel_rfl
theorem shape694:(topD 75).2.2.1=(by refine' (?f:∀ a b c d e p g,(topD 75).2.2.1=[a,.For b c d e p,g]→List Stmt) _ _ _ _ _ _ _ ?h;exact λ a b c _ e p g _=>[a,.For b c bod e p,g];case h=>conv=>lhs;whnf):=rfl
theorem fn694 (b:Bool):(outL b).fn 694=some ⟨["words"],[],(topD 75).2.2.1,sc75⟩:=by kernel_rfl
theorem kinds694:sc75.kind=.function∧zqt sc75 "words" = true∧zqt sc75 "found" = true∧zqt sc75 "at" = true∧zxk sc75 "range" = true∧zxk sc75 "len" = true:=
 ⟨by kernel_rfl,by kernel_rfl,by kernel_rfl,by kernel_rfl,by kernel_rfl,by kernel_rfl⟩
end
section
section
variable {prog:Program}{w:World}{K:Frag}{ti:List TabI}{fr:Led}{U:SubP}{c:Cx}{RX:Cx→Led→Int→Value→Shared→Prop}{O:Out}
 {σ σ' σ₁ σ₂:St}{ad:List Ad}{own tb fz:Led}{m:Str→Option Value}{s:Shared}{p:Program}{loose:List Str}{mg mb:Str→Option Value}
theorem zx0 {pos:Pos}(I:Inv U K w.params ti fr c σ ad own tb fz m s):Sd (model prog w) U K w.params ti fr RX c ad fz (VRs K w.params) (spliced (backTo pos (starEach [] c.env))) (ok [] σ) s:=wpAny_pure (.mk I .nil)
theorem zxm (hRX:RXm RX) {pos:Pos}{e:PySem.Expr}{r:List PySem.Expr}{a:AV}{bs:List AV}(hs:noStar e=true) (h1:Sd (model prog w) U K w.params ti fr RX c ad fz (VR K w.params) (eval e c.env) (ok a σ₁) s)
  (h2:∀ s' ad' own tb fz' m,Pre ad ad'→fz⊆fz'→Inv U K w.params ti fr c σ₁ ad' own tb fz' m s'→Sd (model prog w) U K w.params ti fr RX c ad' fz' (VRs K w.params) (spliced (backTo pos (starEach r c.env))) (ok bs σ₂) s') :
  Sd (model prog w) U K w.params ti fr RX c ad fz (VRs K w.params) (spliced (backTo pos (starEach (e::r) c.env))) (ok (a::bs) σ₂) s:=by
 rw [zqe hs]
 show Sd _ _ _ _ _ _ _ _ _ _ _ (do
  let v ← eval e c.env
  let here ← pure [v]
  return here++(← holding here (spliced (backTo pos (starEach r c.env))))) _ _
 refine Sd.seq hRX h1 λ v s' ad' own' tb' fz' m' hp hf I' ha=>?_
 refine Sd.wp (λ Q E h=>wpAny_bind (wpAny_pure h)) ?_
 refine Sd.seq hRX (Sd.hold (h2 _ _ _ _ _ _ hp hf I')) λ v₂ s' ad₂ own₂ tb₂ fz₂ m₂ hp hf I₂ hb=>?_
 exact Sd.ok I₂ (.cons (ha.mono hp hf) hb)
theorem sd_callH (hRX:RXm RX) {f:Value}{first:List Value}{pos:Pos}{e:PySem.Expr}{r:List PySem.Expr}{as:List AV}{v:AV}(hs:(e::r).all noStar=true)
  (hA:Sd (model prog w) U K w.params ti fr RX c ad fz (VRs K w.params) (spliced (backTo pos (starEach (e::r) c.env))) (ok as σ₁) s)
  (h:∀ vs ad' own tb fz' m s',Pre ad ad'→fz⊆fz'→Inv U K w.params ti fr c σ₁ ad' own tb fz' m s'→VRs K w.params ad' fz' as vs →
   (∃ k,(k=Keeper.frame∨k=Keeper.machine∨k=Keeper.boundFrame)∧Looks (model prog w) s'.heap (keeperOf f) k)∧Sd (model prog w) U K w.params ti fr RX c ad' fz' (VR K w.params) (call f (first++vs) []) (ok v σ₂) s') :
  Sd (model prog w) U K w.params ti fr RX c ad fz (VR K w.params) (callWith pos f first (backTo pos (starEach (e::r) c.env)) []) (ok v σ₂) s:=by
 unfold callWith
 have q':noStar e=true:=(Bool.and_eq_true_iff.mp hs).1
 have hA':Sd (model prog w) U K w.params ti fr RX c ad fz (ArgR K w.params) (evalArgs f true (backTo pos (starEach (e::r) c.env)) []) (ok as σ₁) s:=by
  rw [zqe q'] at hA ⊢
  replace hA:Sd (model prog w) U K w.params ti fr RX c ad fz (VRs K w.params) (spliced ((false,eval e c.env)::backTo pos (starEach r c.env))) (ok as σ₁) s:=hA
  show Sd (model prog w) U K w.params ti fr RX c ad fz (ArgR K w.params) (evalArgs f true ((false,eval e c.env)::backTo pos (starEach r c.env)) []) (ok as σ₁) s
  exact hA.map (g:=λ vs=>(⟨vs,[]⟩:Args)) (λ Q E h=>evalArgs_plain h) λ _ _ _ _ h=>⟨rfl,h⟩
 refine Sd.seq hRX (Sd.hold hA') λ a s₁ ad₁ own₁ tb₁ fz₁ m₁ hp hf I₁ ha=>Sd.stand ?_
 obtain ⟨kw,va⟩:=ha
 obtain ⟨⟨k,hk,L⟩,hc⟩:=h a.pos ad₁ own₁ tb₁ fz₁ m₁ s₁ hp hf I₁ va
 refine Sd.wp (λ Q E h₁=>?_) hc
 simp only [(zzo (pos:=pos) (env:=c.env) hs).1,List.any_nil,Bool.or_false,kw]
 refine wpAny_bind (L.here ?_)
 have tail:∀ {t:Sem Value},wpAny (model prog w) c.A t Q E s₁→wpAny (model prog w) c.A (t >>= λ r=>holding [r] point >>= λ _=>pure r) Q E s₁:=
  λ ht=>wpAny_bind (wpAny_mono ht (λ r s₂ hr=>wpAny_bind (wpAny_holding (wpAny_point (wpAny_pure hr)))) λ _ _ x=>x)
 have marked (mk:Value):wpAny (model prog w) c.A (callMarked mk f (first++a.pos) []) Q E s₁:=by unfold callMarked;exact Calls.wpAny_keep h₁
 rcases hk with rfl | rfl | rfl<;>dsimp only<;>first | exact tail h₁ | (split<;>first | exact tail h₁ | exact tail (marked _))
theorem sd_gl {k:Nat}{x:Str}{q:Pos}{a:AV}(FA:zqr K w.params O) (Y:Ok p loose mg mb K c k) (I:Inv U K w.params ti fr c σ ad own tb fz m s) (hx:zxk c.sc x=true) (hd:sB x "__debug__" = false) (hl:O.glob x=some a) :
  Sd (model prog w) U K w.params ti fr RX c ad fz (VR K w.params) (eval (.Name x q) c.env) (ok a σ) s:=by
 have h:=sd_name (prog:=prog) (w:=w) (RX:=RX) (x:=x) (pos:=q) FA Y I
 rwa [zku hx hd hl] at h
theorem zxh (hRX:RXm RX) {k:Nat}{x:Str}{q pos:Pos}{e:PySem.Expr}{r:List PySem.Expr}{fa:AV}{as:List AV}{v:AV}(FA:zqr K w.params O) (FC:zxf K w.params O) (Y:Ok p loose mg mb K c k) (I:Inv U K w.params ti fr c σ ad own tb fz m s)
  (hx:zxk c.sc x=true) (hd:sB x "__debug__" = false) (hl:O.glob x=some fa) (hca:canA O fa=true) (hs:(e::r).all noStar=true)
  (hA:∀ s' ad' own tb fz' m,Pre ad ad'→fz⊆fz'→Inv U K w.params ti fr c σ ad' own tb fz' m s'→Sd (model prog w) U K w.params ti fr RX c ad' fz' (VRs K w.params) (spliced (backTo pos (starEach (e::r) c.env))) (ok as σ₁) s')
  (h:∀ vf vs ad' own tb fz' m s',Pre ad ad'→fz⊆fz'→Inv U K w.params ti fr c σ₁ ad' own tb fz' m s'→VR K w.params ad' fz' fa vf→VRs K w.params ad' fz' as vs→Sd (model prog w) U K w.params ti fr RX c ad' fz' (VR K w.params) (call vf vs []) (ok v σ₂) s') :
  Sd (model prog w) U K w.params ti fr RX c ad fz (VR K w.params) (eval (.Call (.Name x q) (e::r) [] pos) c.env) (ok v σ₂) s:=by
 rw [arm_eval_Call_Name']
 refine Sd.seq hRX (sd_gl FA Y I hx hd hl) λ vf s₁ ad₁ own₁ tb₁ fz₁ m₁ hp₁ hf₁ I₁ hv=>?_
 refine sd_callH (first:=[]) hRX hs (hA _ _ _ _ _ _ hp₁ hf₁ I₁) λ vs ad₂ own₂ tb₂ fz₂ m₂ s₂ hp₂ hf₂ I₂ hvs=>⟨zxn FC Y.X hca I₂ (hv.mono hp₂ hf₂),?_⟩
 exact h vf vs _ _ _ _ _ _ (hp₁.trans hp₂) (λ _ h=>hf₂ (hf₁ h)) I₂ (hv.mono hp₂ hf₂) hvs
theorem sd_tcmp (hRX:RXm RX) {l r:PySem.Expr}{op:CmpOp}{pos:Pos}{a b:AV}{t:Bool}(hn:zkz r=true) (h1:Sd (model prog w) U K w.params ti fr RX c ad fz (VR K w.params) (eval l c.env) (ok a σ₁) s)
  (h2:∀ s' ad' own tb fz' m,Pre ad ad'→fz⊆fz'→Inv U K w.params ti fr c σ₁ ad' own tb fz' m s'→Sd (model prog w) U K w.params ti fr RX c ad' fz' (VR K w.params) (eval r c.env) (ok b σ₂) s')
  (h3:∀ va vb s' ad' own tb fz' m,Pre ad ad'→fz⊆fz'→Inv U K w.params ti fr c σ₂ ad' own tb fz' m s'→VR K w.params ad' fz' a va→VR K w.params ad' fz' b vb→Sd (model prog w) U K w.params ti fr RX c ad' fz' BoolV (compareOp op va vb) (ok t σ') s') :
  Sd (model prog w) U K w.params ti fr RX c ad fz EqB (isTrue (.Compare l [op] [r] pos) c.env (eval (.Compare l [op] [r] pos) c.env)) (ok t σ') s:=by
 rw [isTrue_Compare1,markedBehindIn_of_false (zxp hn)]
 refine Sd.seq hRX h1 λ va s₁ ad₁ own₁ tb₁ fz₁ m₁ hp₁ hf₁ I₁ ha=>?_
 refine Sd.seq hRX (Sd.hold (h2 _ _ _ _ _ _ hp₁ hf₁ I₁)) λ vb s₂ ad₂ own₂ tb₂ fz₂ m₂ hp hf I₂ hb=>Sd.stand ?_
 refine Sd.seq hRX (Sd.oper (h3 _ _ _ _ _ _ _ _ (hp₁.trans hp) (λ _ h=>hf (hf₁ h)) I₂ (ha.mono hp hf) hb)) λ vt s₃ ad₃ own₃ tb₃ fz₃ m₃ hp hf I₃ ht=>?_
 cases ht
 exact Sd.hold (wpAny_truthy_bool (.mk I₃ rfl))
theorem sd_if0 (hRX:RXm RX) {t:PySem.Expr}{b:List Stmt}{pos:Pos}(h:Sd (model prog w) U K w.params ti fr RX c ad fz EqB (isTrue t c.env (eval t c.env)) (ok false σ') s) :
  Sd (model prog w) U K w.params ti fr RX c ad fz (FlR K w.params) (exec (.If t b [] pos) c.env) (ok .next σ') s:=by
 rw [exec_If]
 refine Sd.stand (Sd.seq hRX h λ b' s' ad₂ own₂ tb₂ fz₂ m₂ hp hf I₂ hb=>?_)
 cases hb
 show Sd _ _ _ _ _ _ _ _ _ _ _ (execs [] c.env) _ _
 exact wpAny_execs_nil (.mk I₂ .next)
end
end
section
section
variable {w:World}{fr:Led}{U:SubP}{c:Cx}{RX:Cx→Led→Int→Value→Shared→Prop}
 {σ σ':St}{ad:List Ad}{own tb fz:Led}{m:Str→Option Value}{s:Shared}{p:Program}{loose:List Str}{mg mb:Str→Option Value}
noncomputable def gav (f d:Nat):List AV:=match Nat.beq f 715 with
 | true=>[]
 | false=>match Nat.beq f 743 with
  | true=>[.off 0 0 0]
  | false=>[.int (Int.ofNat d)]
theorem gen_ok {D K f d a b:Nat}{ns:List Int}{tape:List Tape}{v:AV}{loc:List (Str × AV)}{junk:List HO}(ht:zqu (GenK w p loose mg mb (D + 70)) ns d a tape b)
  (hrun:(run out K).C (.gref f) (.hnd 0::gav f d) ⟨[],[.src tape]⟩=some (.ok v ⟨loc,.src []::junk⟩)) (hv:Pure v) :
  GenK w p loose mg mb (D + 70 + K) f d ns a v b:=by
 intro c fr x own tb fz m s vs cs n' Y I hn hc hi hvs
 let y:Ad:={ x with z:=λ _=>d,n:=b }
 have I₁:Inv (lvl w p loose mg mb (D + 70)) (KF w.params) w.params tis fr c ⟨[],[.src tape]⟩ [y] own tb fz m s:=by
  refine ⟨I.F,I.N,I.nd,?_,I.tb,(λ y a q=>nomatch q),I.og⟩
  have ow:=I.ow
  replace ow:=ow.inv;cases ow with | cons o1 o2=>
  replace o2:=o2.inv;cases o2
  replace o1:=o1.inv;cases o1 with | src b1 b2 b3 b4 b5=>
  rename_i at0 ns0 cs0 nn n0 tk0
  have e1:at0=a:=Eq.trans b5 hn
  have e2:=cells_one (I.mem b1) (I.mem hc) b2 hi
  subst e1 e2
  exact OWs.cons (.src (x:=y) b1 b2 b3 b4 ht) .nil
 have Y':Ok p loose mg mb (KF w.params) c (K + (D + 70)):=Y.le (by omega)
 have hvs':VRs (KF w.params) w.params [y] fz (.hnd 0::gav f d) vs:=by
  replace hvs:=hvs.inv;cases hvs with | cons g1 g2=>
  replace g1:=g1.inv;cases g1 with | hnd g3=>
  cases g3
  refine .cons (.hnd (x:=y) rfl) ?_
  unfold zk0 at g2
  unfold gav
  split<;>rename_i q<;>rw [q] at g2
  ·replace g2:=g2.inv;cases g2;exact .nil
  ·split
   ·replace g2:=g2.inv;cases g2 with | cons g4 g5=>
    replace g5:=g5.inv;cases g5
    replace g4:=g4.inv;cases g4 with | int t=>
    exact .cons (.off (x:=y) t rfl) .nil
   ·replace g2:=g2.inv;cases g2 with | cons g4 g5=>
    replace g5:=g5.inv;cases g5
    replace g4:=g4.inv;cases g4 with | int t=>
    exact .cons (.int _ t) .nil
 have hx:zqc (.hnd 0::gav f d)=true:=by
  unfold gav
  split
  ·rfl
  ·split<;>rfl
 have main:=(zq8 (baseK (w:=w) (p:=p) (loose:=loose) (mg:=mg) (mb:=mb) D) K c Y').C fr (.gref f) f _ vs _ _ _ _ _ m s I₁ (.gref f) hvs' hx
 rw [hrun] at main
 refine codeAny_mono main λ r s' h=>?_
 cases r with
 | error e=>exact h.elim
 | ok fl=>
  cases fl with
  | ret u=>
   obtain ⟨ad',own',tb',fz',hp,hfz,I₂,hu⟩:=h
   obtain ⟨ads,rfl⟩:=hp
   have ow:=I₂.ow
   replace ow:=ow.inv;cases ow with | cons o1 o2=>
   rename_i e₁ es
   have N₂:=I₂.N
   have nd₂:=I₂.nd
   have pm:((e₁++es)++(tb'++(fr++fz'))).Perm (e₁++(tb'++(fr++(es++fz')))):=by
    have q:∀ a b:Led,(a++(es++b)).Perm (es++(a++b)):=λ a b=>by
     rw [← List.append_assoc,← List.append_assoc]
     exact List.Perm.append_right _ List.perm_append_comm
    rw [List.append_assoc]
    exact List.Perm.append_left _ ((((q fr fz').append_left tb').trans (q tb' _)).symm)
   have hs:fz'⊆es++fz':=List.subset_append_right ..
   refine ⟨e₁,tb',es++fz',λ _ h=>hs (hfz h),?_,(hv.2 _ _ _ _ _ hu).mono .refl hs⟩
   refine ⟨I₂.F,λ q hq=>N₂ q (pm.mem_iff.mpr (by simpa using hq)),(pm.map _).nodup_iff.mp nd₂ |> λ h=>by simpa using h,?_,I₂.tb.mono hs,(λ y a q=>nomatch q),I₂.og⟩
   replace o1:=o1.inv;cases o1 with | src b1 b2 b3 b4 b5=>
   rename_i at0 ns0 cs0 nn n0 tk0
   have e1:at0=b:=b5
   subst e1
   have goal:OW noU (KF w.params) w.params [{ x with n:=at0 }] (es++fz') { x with n:=at0 } (.src []) [(x.a,listOf #[.ref x.t,.int (at0:Int) tk0] nn)]:=.src (x:={ x with n:=at0 }) (hs b1) b2 b3 b4 rfl
   exact OWs.cons goal .nil
  | _=>exact h.elim
end
end
section
noncomputable def resS (x:Ou AV):Option (AV × List (Str × AV) × List Tape):=bd (okA x) λ p=>List.rec none (λ o _ _=>mp (λ t=>(p.1,p.2.loc,t)) o.src?) p.2.ho
theorem resS_ex {x:Ou AV}{v:AV}{l:List (Str × AV)}{t:List Tape}(h:resS x=some (v,l,t)):∃ junk,x=some (.ok v ⟨l,.src t::junk⟩):=by
 exact bd_q h λ p h1 h=>head_q (Q:=λ ho=>x=some (.ok p.1 ⟨p.2.loc,ho⟩)→∃ junk,x=some (.ok v ⟨l,.src t::junk⟩)) h (λ o rr h e=>
  mp_q (Q:=λ t=>∃ junk,x=some (.ok t.1 ⟨t.2.1,.src t.2.2::junk⟩)) h λ q h2=>⟨rr,HO.src_e h2▸e⟩) (okA_e h1)
noncomputable abbrev stW (l:List Str):List AV:=l.map .str
noncomputable def smD:Nat→List Tape
 | 0=>[.draw 6 0]
 | 1=>[.draw 6 1]
 | 6=>[.draw 6 3]
 | 7=>[.draw 6 4]
 | 8=>[.draw 6 5]
 | k=>[.draw 6 2,.draw 4 (Int.ofNat (k - 2))]
noncomputable abbrev rB (W T:List AV) (l:Nat):AV:=.tup [.tup [.sp W 2000],.tup T,.int (Int.ofNat l)]
noncomputable abbrev rM (W T:List AV):AV:=.tup [.tup [.sp W 2000],.tup T]
noncomputable abbrev gR (f d:Nat) (t:List Tape):=resS ((run out 50).C (.gref f) (.hnd 0::gav f d) ⟨[],[.src t]⟩)
theorem gR_eq (f d:Nat) (t:List Tape):gR f d t=resS ((runF out 50).C (.gref f) (.hnd 0::gav f d) ⟨[],[.src t]⟩):=by unfold gR;rw [zjj]
noncomputable def gF (f d:Nat) (t:List Tape):=resS ((runF out 50).C (.gref f) (.hnd 0::gav f d) ⟨[],[.src t]⟩)
theorem gR_gF (f d:Nat) (t:List Tape):gR f d t=gF f d t:=by rw [gR_eq];rfl
theorem g_sm (j:Nat) (h:j < 9):gR 715 0 (smD j)=some (.tup [.tup (stW (smW j)),.tup (smT j)],[],[]):=
 (gR_gF _ _ _).trans (zqx (F:=λ j=>gF 715 0 (smD j)) (G:=λ j=>some (.tup [.tup (stW (smW j)),.tup (smT j)],[],[])) (l:=List.range 9) (by kernel_rfl) (List.mem_range.mpr h))
noncomputable def clE (cl n:Nat):List Str:=match cl with | 0=>ends (n + 1) | _=>[]
noncomputable def clL (cl n:Nat):Nat:=match cl with | 0=>0 | _=>n + 1
noncomputable def ix4:List (Nat × Nat × Nat × Nat):=ixC 4 (ixC 2 (ix2 3 2))
noncomputable def ix5:List (Nat × Nat × Nat × Nat × Nat):=ixC 4 (ixC 2 (ixC 3 (ix2 3 2)))
theorem g_if (W T:List AV):∀ c t l cl,c < 4→t < 2→l < 3→cl < 2→gR 743 0 [.draw 4 (Int.ofNat c),.callo 736 1 (rB W T l),.draw 2 (Int.ofNat t),.draw 2 1,.draw 2 (Int.ofNat cl)] =
  some (.tup [.tup (stW (("IF":Str)::(cW c++thW t))++.sp W 2000::stW (clE cl l)),.tup [.str "if",.tup (cT c),.tup T,.tup []],.int (Int.ofNat (clL cl l))],[],[]):=λ c t l cl h1 h2 h3 h4=>
 (gR_gF _ _ _).trans (zqx (F:=λ i:Nat × Nat × Nat × Nat=>gF 743 0 [.draw 4 (Int.ofNat i.1),.callo 736 1 (rB W T i.2.2.1),.draw 2 (Int.ofNat i.2.1),.draw 2 1,.draw 2 (Int.ofNat i.2.2.2)]) (G:=λ i=>some (.tup [.tup (stW (("IF":Str)::(cW i.1++thW i.2.1))++.sp W 2000::stW (clE i.2.2.2 i.2.2.1)),.tup [.str "if",.tup (cT i.1),.tup T,.tup []],.int (Int.ofNat (clL i.2.2.2 i.2.2.1))],[],[])) (l:=ix4) (a:=(c,t,l,cl)) (by kernel_rfl) (zxs h1 (zxs h2 (zx4 h3 h4))))
theorem g_ife (W T W' T':List AV):∀ c t l l' cl,c < 4→t < 2→l < 3→l' < 3→cl < 2→gR 743 0 [.draw 4 (Int.ofNat c),.callo 736 1 (rB W T l),.draw 2 (Int.ofNat t),.draw 2 0,.callo 736 1 (rB W' T' l'),.draw 2 (Int.ofNat cl)] =
  some (.tup [.tup (stW (("IF":Str)::(cW c++thW t))++.sp W 2000::(stW (ends l++[zqj])++.sp W' 2000::stW (clE cl l'))),.tup [.str "if",.tup (cT c),.tup T,.tup T'],.int (Int.ofNat (clL cl l'))],[],[]):=λ c t l l' cl h1 h2 h3 h3' h4=>
 (gR_gF _ _ _).trans (zqx (F:=λ i:Nat × Nat × Nat × Nat × Nat=>gF 743 0 [.draw 4 (Int.ofNat i.1),.callo 736 1 (rB W T i.2.2.1),.draw 2 (Int.ofNat i.2.1),.draw 2 0,.callo 736 1 (rB W' T' i.2.2.2.1),.draw 2 (Int.ofNat i.2.2.2.2)]) (G:=λ i=>some (.tup [.tup (stW (("IF":Str)::(cW i.1++thW i.2.1))++.sp W 2000::(stW (ends i.2.2.1++[zqj])++.sp W' 2000::stW (clE i.2.2.2.2 i.2.2.2.1))),.tup [.str "if",.tup (cT i.1),.tup T,.tup T'],.int (Int.ofNat (clL i.2.2.2.2 i.2.2.2.1))],[],[])) (l:=ix5) (a:=(c,t,l,l',cl)) (by kernel_rfl) (zxs h1 (zxs h2 (zxs h3 (zx4 h3' h4)))))
noncomputable def tuT (d:Nat) (W t:List AV) (k l:Nat):List Tape:=match k with
 | 0=>[.draw 3 0,.call 743 d (rB W t l)]
 | 3=>[.call 715 0 (rM W t)]
 | k=>[.draw 3 (Int.ofNat k),.call 715 0 (rM W t)]
noncomputable def tuL (k l:Nat):Nat:=match k with | 0=>l | _=>0
theorem g_b1 (W t:List AV):∀ d k l,(d=2∨d=3)∧k < 3∨d=4∧k=3→gR 736 d (.draw 2 0::tuT d W t k l)=some (.tup [.tup [.sp W 2000],.tup [.tup t],.int (Int.ofNat (tuL k l))],[],[]):=by
 intro d k l h
 rcases h with ⟨rfl | rfl,hk⟩ | ⟨rfl,rfl⟩
 ·rcases k with _ | _ | _ | k<;>first | omega | (rw [gR_eq];kernel_rfl)
 ·rcases k with _ | _ | _ | k<;>first | omega | (rw [gR_eq];kernel_rfl)
 ·rw [gR_eq];kernel_rfl
theorem g_b2 (W t W' t':List AV):∀ d k k' l,(d=2∨d=3)∧k < 3∧k' < 3∨d=4∧k=3∧k'=3→gR 736 d (.draw 2 1::(tuT d W t k 0++tuT d W' t' k' l))=some (.tup [.tup [.sp W 2000,.sp W' 2000],.tup [.tup t,.tup t'],.int (Int.ofNat (tuL k' l))],[],[]):=by
 intro d k k' l h
 rcases h with ⟨rfl | rfl,hk,hk'⟩ | ⟨rfl,rfl,rfl⟩
 ·rcases k with _ | _ | _ | k<;>first | omega | skip
  all_goals rcases k' with _ | _ | _ | k'<;>first | omega | (rw [gR_eq];kernel_rfl)
 ·rcases k with _ | _ | _ | k<;>first | omega | skip
  all_goals rcases k' with _ | _ | _ | k'<;>first | omega | (rw [gR_eq];kernel_rfl)
 ·rw [gR_eq];kernel_rfl
theorem g_bL (W t:List AV):∀ d l,(d=2∨d=3)→gR 736 d (.draw 2 1::tuT d W t 0 (l + 1))=some (.tup [.tup [.sp W 2000],.tup [.tup t],.int (Int.ofNat (l + 1))],[],[]):=by
 intro d l h
 rcases h with rfl | rfl<;>(rw [gR_eq];kernel_rfl)
end
section
section
variable {w:World}{p:Program}{loose:List Str}{mg mb:Str→Option Value}{K:Frag}{P:Params}{ad:List Ad}{fz:Led}
theorem GenB.conv {D f d a b:Nat}{ns:List Int}{v v':AV}(h:∀ K P fz u,VR K P [] fz v u→VR K P [] fz v' u) (g:GenK w p loose mg mb D f d ns a v b):GenK w p loose mg mb D f d ns a v' b:=
 λ c fr x own tb fz m s vs cs n' Y I hn hc hi hv=>codeAny_mono (g c fr x own tb fz m s vs cs n' Y I hn hc hi hv) λ r s' z=>by
  cases r with
  | error e=>exact z.elim
  | ok fl=>
   cases fl with
   | ret u=>
    obtain ⟨own',tb',fz',h1,h2,h3⟩:=z
    exact ⟨own',tb',fz',h1,h2,h _ _ _ _ h3⟩
   | _=>exact z.elim
noncomputable def AV.spl? (a:AV):Option (List AV):=AV.casesOn (motive_1:=λ _=>Option (List AV)) a Option.none (λ _=>Option.none) (λ _=>Option.none) (λ _=>Option.none) (λ _=>Option.none) (λ _=>Option.none) (λ _=>Option.none) (λ _=>Option.none) (λ _=>Option.none) (λ _=>Option.none) (λ _=>Option.none) (λ s _=>Option.some s) (λ _ _ _ _=>Option.none) (λ _ _ _=>Option.none) (λ _=>Option.none) (λ _=>Option.none) (λ _=>Option.none) Option.none
theorem spl_conS (a:AV):conS a=false→a.spl? = none:=AV.casesOn (motive_1:=λ a=>conS a=false→a.spl? = none) a (λ _=>rfl) (λ _ _=>rfl) (λ _ _=>rfl) (λ _ _=>rfl) (λ _ _=>rfl) (λ _ _=>rfl) (λ _ _=>rfl) (λ _ _=>rfl) (λ _ _=>rfl) (λ _ _=>rfl) (λ _ _=>rfl) (λ _ _ h=>Bool.noConfusion h) (λ _ _ _ _ _=>rfl) (λ _ _ _ _=>rfl) (λ _ _=>rfl) (λ _ _=>rfl) (λ _ _=>rfl) (λ _=>rfl)
noncomputable def unsp (l:List AV):List AV:=List.rec [] (λ a _ ih=>Option.rec (a::ih) (λ s=>s++ih) a.spl?) l
theorem unsp_c {a:AV}{l:List AV}(h:conS a=false):unsp (a::l)=a::unsp l:=by
 show (Option.rec _ _ a.spl?:List AV)=_
 rw [spl_conS a h];rfl
theorem unsp_s {x:Str}{l:List AV}:unsp (.str x::l)=.str x::unsp l:=rfl
theorem zxy:unsp []=[]:=rfl
theorem zzu {l r:List AV}{n:Nat}:unsp (.sp l n::r)=l++unsp r:=rfl
theorem VRs.unsp {l:List AV}{vs:List Value}(h:VRs K P ad fz l vs):VRs K P ad fz (unsp l) vs:=
 h.rec1 (M:=λ l vs=>VRs K P ad fz (AI.unsp l) vs) .nil (λ a _ b=>by rw [unsp_c a.notSp];exact .cons a b) (λ a _ _ _ c=>a.append c)
theorem zqs:∀ ws:List Str,zqc (ws.map .str)=true
 | []=>rfl
 | _::r=>zqs r
theorem tup_sp {l:List AV}{ws:List Str}{n:Nat}{u:Value}(e:unsp l=ws.map .str) (hn:ws.length≤n) (h:VR K P ad fz (.tup l) u):VR K P ad fz (.tup [.sp (ws.map .str) n]) u:=by
 replace h:=h.inv;cases h with | tup a b=>
 have b:=b.unsp
 rw [e] at b
 have hl:=b.plain (zqs ws)
 rw [List.length_map] at hl
 refine .tup a ?_
 have:=VRs.sp (n:=n) b (zqs ws) (by omega) (.nil (K:=K) (P:=P) (ad:=ad) (fz:=fz))
 rwa [List.append_nil] at this
end
end
section
section
variable {w:World}{p:Program}{loose:List Str}{mg mb:Str→Option Value}{K:Frag}{P:Params}{ad:List Ad}{fz:Led}
theorem zxt (ns:List Int) (a:Nat) (m:Nat) (h:0 < m):∃ k,k < m∧Int.ofNat k=drawV ns a m:=by
 unfold drawV
 generalize (ns.getD (a % ns.length) 0 + 11 * ((a / ns.length:Nat):Int))=x
 have h1:0≤x % (m:Int):=Int.emod_nonneg _ (by omega)
 have h2:x % (m:Int) < m:=Int.emod_lt_of_pos _ (by omega)
 exact ⟨(x % (m:Int)).toNat,by omega,by show ((x % (m:Int)).toNat:Int)=_;omega⟩
theorem gen_go {D f d a b:Nat}{ns:List Int}{tape:List Tape}{v:AV}(ht:zqu (GenK w p loose mg mb (D + 70)) ns d a tape b) (hr:gR f d tape=some (v,[],[])) (hv:Pure v):GenK w p loose mg mb (D + 120) f d ns a v b:=by
 obtain ⟨junk,h⟩:=resS_ex hr
 exact gen_ok ht h hv
end
end
section
section
variable {w:World}{p:Program}{loose:List Str}{mg mb:Str→Option Value}{K:Frag}{P:Params}{ad:List Ad}{fz:Led}
noncomputable def LSd:Nat→Nat
 | 1=>1032
 | 2=>254
 | 3=>60
 | _=>12
noncomputable def LBd:Nat→Nat
 | 2=>508
 | 3=>120
 | _=>24
noncomputable def HSd:Nat→Nat
 | 1=>7
 | 2=>5
 | 3=>3
 | _=>1
noncomputable def HBd:Nat→Nat
 | 2=>6
 | 3=>4
 | _=>2
structure GdS (d:Nat) (s:Sx):Prop where
 ok:okS s
 left:zxd s≤4 - d
 len:(owS s).length≤LSd d
 h:hS s≤HSd d
structure GdB (d:Nat) (s:Bx):Prop where
 ok:okB s
 left:zqy s≤4 - d
 len:(owB s).length≤LBd d
 h:hB s≤HBd d
theorem len_c (c:Nat):(cW c).length≤8:=by unfold cW;split<;>decide
theorem len_t (c:Nat):(thW c).length≤1:=by unfold thW;split<;>decide
theorem len_sm (c:Nat):(smW c).length≤12:=by unfold smW;split<;>decide
theorem len_e (c:Nat):(ends c).length=c:=List.length_replicate
theorem la {a b:List Str}{m n:Nat}(h:a.length≤m) (h':b.length≤n):(a++b).length≤m + n:=by rw [List.length_append];exact Nat.add_le_add h h'
theorem len_e' {c n:Nat}(h:c≤n):(ends c).length≤n:=by rw [len_e];exact h
theorem lf {d l:Nat}(hd:d=1∨d=2∨d=3) (h:l≤4 - (d + 1)):l + 1≤4 - d:=by
 rcases hd with rfl | rfl | rfl<;>exact Nat.succ_le_succ h
theorem lt_le {x m n:Nat}(h:x≤m) (e:Nat.ble m n=true):x≤n:=Nat.le_trans h (Nat.le_of_ble_eq_true e)
theorem owI (c t:Nat) (y:Bx) (b:Bool):∃ e l,owS (.iff c t y b)=("IF":Str)::(cW c++(thW t++(owB y++e)))∧zxd (.iff c t y b)=l∧(e=[]∧l=zqy y + 1∨e=ends (zqy y + 1)∧l=0):=by
 cases b
 ·exact ⟨_,_,rfl,rfl,.inl ⟨rfl,rfl⟩⟩
 ·exact ⟨_,_,rfl,rfl,.inr ⟨rfl,rfl⟩⟩
theorem owE (c t:Nat) (y n:Bx) (b:Bool):∃ e l,owS (.ife c t y n b)=("IF":Str)::(cW c++(thW t++(owB y++(ends (zqy y)++([zqj]++(owB n++e))))))∧zxd (.ife c t y n b)=l∧(e=[]∧l=zqy n + 1∨e=ends (zqy n + 1)∧l=0):=by
 cases b
 ·exact ⟨_,_,rfl,rfl,.inl ⟨rfl,rfl⟩⟩
 ·exact ⟨_,_,rfl,rfl,.inr ⟨rfl,rfl⟩⟩
theorem tailL {d l k:Nat}{e:List Str}(hd:d=1∨d=2∨d=3) (h:l≤4 - (d + 1)) (q:e=[]∧k=l + 1∨e=ends (l + 1)∧k=0):e.length≤4 - d∧k≤4 - d:=by
 rcases q with ⟨rfl,rfl⟩ | ⟨rfl,rfl⟩
 ·exact ⟨Nat.zero_le _,lf hd h⟩
 ·exact ⟨len_e' (lf hd h),Nat.zero_le _⟩
theorem gd_if {d c t:Nat}{y:Bx}(hd:d=1∨d=2∨d=3) (hc:c < 4) (ht:t < 2) (g:GdB (d + 1) y) (b:Bool):GdS d (.iff c t y b):=by
 obtain ⟨e,l,e1,e2,q⟩:=owI c t y b
 have q:=tailL hd g.left q
 have h:(owS (.iff c t y b)).length≤(8 + (1 + (LBd (d + 1) + (4 - d)))) + 1:=by rw [e1];exact Nat.succ_le_succ (la (len_c c) (la (len_t t) (la g.len q.1)))
 have hh:hS (.iff c t y b)≤HBd (d + 1) + 1:=Nat.succ_le_succ g.h
 refine ⟨⟨hc,ht,g.ok⟩,by rw [e2];exact q.2,?_,?_⟩
 ·clear hh;rcases hd with rfl | rfl | rfl<;>exact lt_le h rfl
 ·clear h;rcases hd with rfl | rfl | rfl<;>exact lt_le hh rfl
theorem gd_ife {d c t:Nat}{y n:Bx}(hd:d=1∨d=2∨d=3) (hc:c < 4) (ht:t < 2) (g:GdB (d + 1) y) (g':GdB (d + 1) n) (b:Bool):GdS d (.ife c t y n b):=by
 obtain ⟨e,l,e1,e2,q⟩:=owE c t y n b
 have q:=tailL hd g'.left q
 have h:(owS (.ife c t y n b)).length≤(8 + (1 + (LBd (d + 1) + ((4 - (d + 1)) + (1 + (LBd (d + 1) + (4 - d))))))) + 1:=by rw [e1];exact Nat.succ_le_succ (la (len_c c) (la (len_t t) (la g.len (la (len_e' g.left) (la (Nat.le_refl 1) (la g'.len q.1))))))
 have hh:hS (.ife c t y n b)≤HBd (d + 1) + 1:=Nat.succ_le_succ (Nat.max_le.mpr ⟨g.h,g'.h⟩)
 refine ⟨⟨hc,ht,g.ok,g'.ok⟩,by rw [e2];exact q.2,?_,?_⟩
 ·clear hh;rcases hd with rfl | rfl | rfl<;>exact lt_le h rfl
 ·clear h;rcases hd with rfl | rfl | rfl<;>exact lt_le hh rfl
theorem gd_sm {d j:Nat}(hd:d=2∨d=3∨d=4) (hj:j < 9):GdS d (.sm j):=by
 refine ⟨hj,Nat.zero_le _,?_,?_⟩
 ·rcases hd with rfl | rfl | rfl<;>exact lt_le (len_sm j) rfl
 ·rcases hd with rfl | rfl | rfl<;>exact Nat.le_of_ble_eq_true rfl
theorem LB2 {d:Nat}(hd:d=2∨d=3∨d=4):LSd d + LSd d≤LBd d∧HSd d + 1≤HBd d:=by
 rcases hd with rfl | rfl | rfl<;>exact ⟨Nat.le_of_ble_eq_true rfl,Nat.le_of_ble_eq_true rfl⟩
theorem gd_one {d:Nat}{s:Sx}(hd:d=2∨d=3∨d=4) (g:GdS d s):GdB d (.one s):=
 ⟨g.ok,g.left,Nat.le_trans (Nat.le_trans g.len (Nat.le_add_right _ _)) (LB2 hd).1,Nat.le_trans (Nat.succ_le_succ g.h) (LB2 hd).2⟩
theorem gd_two {d:Nat}{s s':Sx}(hd:d=2∨d=3∨d=4) (g:GdS d s) (g':GdS d s') (h0:zxd s=0):GdB d (.two s s'):=
 ⟨⟨g.ok,g'.ok,h0⟩,g'.left,Nat.le_trans (la g.len g'.len) (LB2 hd).1,Nat.le_trans (Nat.succ_le_succ (Nat.max_le.mpr ⟨g.h,g'.h⟩)) (LB2 hd).2⟩
end
end
section
section
variable {w:World}{p:Program}{loose:List Str}{mg mb:Str→Option Value}{K:Frag}{P:Params}{ad:List Ad}{fz:Led}
theorem zzm:∀ (l:List Str) {r:List AV},zq4 r→zq4 (stW l++r)
 | [],_,h=>h
 | x::l,_,h=>.cons (.str x) (zzm l h)
theorem zqu.app {G:Nat→Nat→List Int→Nat→AV→Nat→Prop}{ns:List Int}{z:Nat}:∀ {t t':List Tape}{a b e:Nat},zqu G ns z a t b→zqu G ns z b t' e→zqu G ns z a (t++t') e
 | [],_,_,_,_,h,h'=>by cases h;exact h'
 | .draw ..::_,_,_,_,_,⟨h1,h2,h⟩,h'=>⟨h1,h2,h.app h'⟩
 | .call ..::_,_,_,_,_,⟨b,h1,h⟩,h'=>⟨b,h1,h.app h'⟩
 | .callo ..::_,_,_,_,_,⟨b,h1,h⟩,h'=>⟨b,h1,h.app h'⟩
theorem zq6:∀ (l:List Str) (r:List AV),unsp (stW l++r)=stW l++unsp r
 | [],_=>rfl
 | x::l,r=>congrArg (AV.str x::·) (zq6 l r)
theorem zx8 (l:List Str):unsp (stW l)=stW l:=by
 have:=zq6 l []
 rw [List.append_nil] at this
 exact this.trans (List.append_nil _)
theorem norm3 {D f d a b n:Nat}{ns:List Int}{L T:List AV}{ws:List Str}(e:unsp L=stW ws) (hl:ws.length≤2000) (g:GenK w p loose mg mb D f d ns a (.tup [.tup L,.tup T,.int (Int.ofNat n)]) b):GenK w p loose mg mb D f d ns a (rB (stW ws) T n) b:=
 GenB.conv (λ K P fz u h=>by
  replace h:=h.inv;cases h with | tup h1 h2=>
  replace h2:=h2.inv;cases h2 with | cons h2 h3=>
  exact .tup h1 (.cons (tup_sp e hl h2) h3)) g
theorem norm2 {D f d a b:Nat}{ns:List Int}{L T:List AV}{ws:List Str}(e:unsp L=stW ws) (hl:ws.length≤2000) (g:GenK w p loose mg mb D f d ns a (.tup [.tup L,.tup T]) b):GenK w p loose mg mb D f d ns a (rM (stW ws) T) b:=
 GenB.conv (λ K P fz u h=>by
  replace h:=h.inv;cases h with | tup h1 h2=>
  replace h2:=h2.inv;cases h2 with | cons h2 h3=>
  exact .tup h1 (.cons (tup_sp e hl h2) h3)) g
theorem le120 {D:Nat}(h:50≤D):120≤D + 70:=Nat.add_le_add_right h 70
theorem dk_le {d k:Nat}(h:(d=2∨d=3)∧k < 3∨d=4∧k=3) {k':Nat}(h':(d=2∨d=3)∧k' < 3∨d=4∧k'=3):(d=2∨d=3)∧k < 3∧k' < 3∨d=4∧k=3∧k'=3:=by
 have no:∀ {d:Nat}{G:Prop},(d=2∨d=3)→d=4→G:=λ h q=>by subst q;exact absurd h (by decide)
 exact h.elim (λ h=>h'.elim (λ h'=>.inl ⟨h.1,h.2,h'.2⟩) (λ h'=>no h.1 h'.1)) (λ h=>h'.elim (λ h'=>no h'.1 h.1) (λ h'=>.inr ⟨h.1,h.2,h'.2⟩))
theorem lf3 {d l:Nat}(hd:d=1∨d=2∨d=3) (h:l≤4 - (d + 1)):l < 3:=Nat.lt_succ_of_le (Nat.le_trans h (by rcases hd with rfl | rfl | rfl<;>exact Nat.le_of_ble_eq_true rfl))
theorem mk_sm (ns:List Int) (a:Nat):∃ j b,j < 9∧GenK w p loose mg mb 120 715 0 ns a (rM (stW (smW j)) (smT j)) b:=by
 have fin:∀ j b,j < 9→zqu (GenK w p loose mg mb 70) ns 0 a (smD j) b→∃ j b,j < 9∧GenK w p loose mg mb 120 715 0 ns a (rM (stW (smW j)) (smT j)) b:=λ j b hj ht=>
  ⟨j,b,hj,norm2 (zx8 _) (lt_le (len_sm j) rfl) (gen_go (D:=0) ht (g_sm j hj) (.tup (.cons (.tup (zqv _)) (.cons (.tup (zka j)) .nil))))⟩
 obtain ⟨k,hk,e⟩:=zxt ns a 6 (by decide)
 have d1:∀ {r b},zqu (GenK w p loose mg mb 70) ns 0 (a + 1) r b→zqu (GenK w p loose mg mb 70) ns 0 a (.draw 6 (Int.ofNat k)::r) b:=λ h=>⟨by decide,e,h⟩
 obtain rfl | rfl | rfl | rfl | rfl | rfl:k=0∨k=1∨k=2∨k=3∨k=4∨k=5:=lt6 hk
 ·exact fin 0 _ (by decide) (d1 (r:=[]) rfl)
 ·exact fin 1 _ (by decide) (d1 (r:=[]) rfl)
 ·obtain ⟨i,hi,e2⟩:=zxt ns (a + 1) 4 (by decide)
  have ht:=d1 (r:=[.draw 4 (Int.ofNat i)]) (b:=a + 2) ⟨by decide,e2,rfl⟩
  obtain rfl | rfl | rfl | rfl:i=0∨i=1∨i=2∨i=3:=lt4 hi
  ·exact fin 2 _ (by decide) ht
  ·exact fin 3 _ (by decide) ht
  ·exact fin 4 _ (by decide) ht
  ·exact fin 5 _ (by decide) ht
 ·exact fin 6 _ (by decide) (d1 (r:=[]) rfl)
 ·exact fin 7 _ (by decide) (d1 (r:=[]) rfl)
 ·exact fin 8 _ (by decide) (d1 (r:=[]) rfl)
noncomputable def MkS (w:World) (p:Program) (loose:List Str) (mg mb:Str→Option Value) (ns:List Int) (L d:Nat):Prop:=∀ a,∃ s b,GdS d s∧fnS s=405∧GenK w p loose mg mb L 743 d ns a (rB (stW (owS s)) (trS s) (zxd s)) b
noncomputable def MkB (w:World) (p:Program) (loose:List Str) (mg mb:Str→Option Value) (ns:List Int) (L d:Nat):Prop:=∀ a,∃ y b,GdB d y∧GenK w p loose mg mb L 736 d ns a (rB (stW (owB y)) (trB y) (zqy y)) b
theorem mk_turn {ns:List Int}{D d:Nat}(hL:50≤D) (hd:(d=2∨d=3)∧MkS w p loose mg mb ns (D + 70) d∨d=4) (a:Nat):∃ k l s b,((d=2∨d=3)∧k < 3∨d=4∧k=3)∧GdS d s∧tuL k l=zxd s∧(l=0∨k=0∧(d=2∨d=3))∧∀ z,zqu (GenK w p loose mg mb (D + 70)) ns z a (tuT d (stW (owS s)) (trS s) k l) b:=by
 rcases hd with ⟨hd,hS⟩ | rfl
 ·obtain ⟨k,hk,e⟩:=zxt ns a 3 (by decide)
  obtain rfl | hk':k=0∨(k=1∨k=2):=lt3 hk
  ·obtain ⟨s,b,g,_,h⟩:=hS (a + 1)
   exact ⟨0,zxd s,s,b,.inl ⟨hd,by decide⟩,g,rfl,.inr ⟨rfl,hd⟩,λ z=>⟨by decide,e,b,h,rfl⟩⟩
  ·obtain ⟨j,b,hj,h⟩:=mk_sm (w:=w) (p:=p) (loose:=loose) (mg:=mg) (mb:=mb) ns (a + 1)
   have h:=h.le (le120 hL)
   refine ⟨k,0,.sm j,b,.inl ⟨hd,hk⟩,gd_sm (hd.imp id .inl) hj,?_,.inl rfl,λ z=>?_⟩
   ·rcases hk' with rfl | rfl<;>rfl
   ·rcases hk' with rfl | rfl
    ·exact ⟨by decide,e,b,h,rfl⟩
    ·exact ⟨by decide,e,b,h,rfl⟩
 ·obtain ⟨j,b,hj,h⟩:=mk_sm (w:=w) (p:=p) (loose:=loose) (mg:=mg) (mb:=mb) ns a
  exact ⟨3,0,.sm j,b,.inr ⟨rfl,rfl⟩,gd_sm (.inr (.inr rfl)) hj,rfl,.inl rfl,λ z=>⟨b,h.le (le120 hL),rfl⟩⟩
theorem len_B {d:Nat}{y:Bx}(hd:d=2∨d=3∨d=4) (g:GdB d y):(owB y).length≤2000:=
 Nat.le_trans g.len (by clear g;rcases hd with rfl | rfl | rfl<;>exact Nat.le_of_ble_eq_true rfl)
theorem len_S {d:Nat}{y:Sx}(hd:d=1∨d=2∨d=3) (g:GdS d y):(owS y).length≤2000:=
 Nat.le_trans g.len (by clear g;rcases hd with rfl | rfl | rfl<;>exact Nat.le_of_ble_eq_true rfl)
theorem mk_b {ns:List Int}{D d:Nat}(hL:50≤D) (hd:(d=2∨d=3)∧MkS w p loose mg mb ns (D + 70) d∨d=4):MkB w p loose mg mb ns (D + 120) d:=by
 intro a
 have hd3:d=2∨d=3∨d=4:=hd.elim (λ h=>h.1.imp id .inl) (λ h=>.inr (.inr h))
 obtain ⟨n,hn,e⟩:=zxt ns a 2 (by decide)
 obtain ⟨k,l,s,b,hk,g,h1,h2,ht⟩:=mk_turn hL hd (a + 1)
 have pw:∀ s:Sx,zq4 [AV.sp (stW (owS s)) 2000]:=λ s=>.sp (zqv _) .nil
 obtain rfl | rfl:n=0∨n=1:=lt2 hn
 ·have G:=gd_one hd3 g
  have t1:zqu (GenK w p loose mg mb (D + 70)) ns d a (.draw 2 0::tuT d (stW (owS s)) (trS s) k l) b:=⟨by decide,e,ht d⟩
  have r:=gen_go t1 (g_b1 _ _ d k l hk) (.tup (.cons (.tup (pw s)) (.cons (.tup (zxo (.one s))) (.cons (.int _) .nil))))
  rw [h1] at r
  exact ⟨.one s,b,G,norm3 (T:=trB (.one s)) (by simp only [zzu,zxy,owB,List.append_nil,List.map_append]) (len_B hd3 G) r⟩
 ·by_cases hl:l=0
  ·subst hl
   obtain ⟨k',l',s',b',hk',g',h1',h2',ht'⟩:=mk_turn hL hd b
   have h0:zxd s=0:=by
    rw [← h1];unfold tuL;split<;>rfl
   have G:=gd_two hd3 g g' h0
   have t1:zqu (GenK w p loose mg mb (D + 70)) ns d a (.draw 2 1::(tuT d (stW (owS s)) (trS s) k 0++tuT d (stW (owS s')) (trS s') k' l')) b':=⟨by decide,e,(ht d).app (ht' d)⟩
   have r:=gen_go t1 (g_b2 _ _ _ _ d k k' l' (dk_le hk hk')) (.tup (.cons (.tup (.sp (zqv _) (pw s'))) (.cons (.tup (zxo (.two s s'))) (.cons (.int _) .nil))))
   rw [h1'] at r
   exact ⟨.two s s',b',G,norm3 (T:=trB (.two s s')) (by simp only [zzu,zxy,owB,List.append_nil,List.map_append]) (len_B hd3 G) r⟩
  ·obtain ⟨rfl,hd2⟩:=h2.resolve_left hl
   obtain ⟨l,rfl⟩:=Nat.exists_eq_succ_of_ne_zero hl
   have G:=gd_one hd3 g
   have t1:zqu (GenK w p loose mg mb (D + 70)) ns d a (.draw 2 1::tuT d (stW (owS s)) (trS s) 0 (l + 1)) b:=⟨by decide,e,ht d⟩
   have r:=gen_go t1 (g_bL _ _ d l hd2) (.tup (.cons (.tup (pw s)) (.cons (.tup (zxo (.one s))) (.cons (.int _) .nil))))
   have h1:l + 1=zxd s:=h1
   rw [h1] at r
   exact ⟨.one s,b,G,norm3 (T:=trB (.one s)) (by simp only [zzu,zxy,owB,List.append_nil,List.map_append]) (len_B hd3 G) r⟩
theorem mk_i {ns:List Int}{D d:Nat}(hd:d=1∨d=2∨d=3) (hB:MkB w p loose mg mb ns (D + 70) (d + 1)):MkS w p loose mg mb ns (D + 120) d:=by
 intro a
 have hd3:d + 1=2∨d + 1=3∨d + 1=4:=hd.imp (congrArg (· + 1)) (.imp (congrArg (· + 1)) (congrArg (· + 1)))
 obtain ⟨c,hc,e1⟩:=zxt ns a 4 (by decide)
 obtain ⟨y,b,g,hy⟩:=hB (a + 1)
 obtain ⟨t,ht,e2⟩:=zxt ns b 2 (by decide)
 obtain ⟨n,hn,e3⟩:=zxt ns (b + 1) 2 (by decide)
 have gl:=g.left
 obtain rfl | rfl:n=0∨n=1:=lt2 hn
 ·obtain ⟨y',b',g',hy'⟩:=hB (b + 2)
  have gl':=g'.left
  obtain ⟨cl,hcl,e4⟩:=zxt ns b' 2 (by decide)
  have t1:zqu (GenK w p loose mg mb (D + 70)) ns d a [.draw 4 (Int.ofNat c),.callo 736 1 (rB (stW (owB y)) (trB y) (zqy y)),.draw 2 (Int.ofNat t),.draw 2 0,.callo 736 1 (rB (stW (owB y')) (trB y') (zqy y')),.draw 2 (Int.ofNat cl)] (b' + 1):=
   ⟨by decide,e1,b,hy,by decide,e2,by decide,e3,b',hy',by decide,e4,rfl⟩
  have r:=gen_go t1 (g_ife _ _ _ _ c t (zqy y) (zqy y') cl hc ht (lf3 hd gl) (lf3 hd gl') hcl) (.tup (.cons (.tup (zzm _ (.sp (zqv _) (zzm _ (.sp (zqv _) (zqv _)))))) (.cons (.tup (.cons (.str _) (.cons (.tup (zx1 c)) (.cons (.tup (zxo y)) (.cons (.tup (zxo y')) .nil))))) (.cons (.int _) .nil))))
  have G:=λ q=>gd_ife (d:=d) hd hc ht g g' q
  obtain rfl | rfl:cl=0∨cl=1:=lt2 hcl
  ·refine ⟨.ife c t y y' true,_,G true,rfl,norm3 (T:=trS (.ife c t y y' true)) ?_ (len_S hd (G true)) r⟩
   rw [zq6]
   simp only [zzu,unsp_s,zxy,zq6,zx8,clE,owS,List.map_cons,List.map_append,List.cons_append,List.append_assoc,List.map_nil,List.nil_append]
  ·refine ⟨.ife c t y y' false,_,G false,rfl,norm3 (T:=trS (.ife c t y y' false)) ?_ (len_S hd (G false)) r⟩
   rw [zq6]
   simp only [zzu,unsp_s,zxy,zq6,zx8,clE,owS,List.map_cons,List.map_append,List.cons_append,List.append_assoc,List.map_nil,List.nil_append]
 ·obtain ⟨cl,hcl,e4⟩:=zxt ns (b + 2) 2 (by decide)
  have t1:zqu (GenK w p loose mg mb (D + 70)) ns d a [.draw 4 (Int.ofNat c),.callo 736 1 (rB (stW (owB y)) (trB y) (zqy y)),.draw 2 (Int.ofNat t),.draw 2 1,.draw 2 (Int.ofNat cl)] (b + 3):=
   ⟨by decide,e1,b,hy,by decide,e2,by decide,e3,by decide,e4,rfl⟩
  have r:=gen_go t1 (g_if _ _ c t (zqy y) cl hc ht (lf3 hd gl) hcl) (.tup (.cons (.tup (zzm _ (.sp (zqv _) (zqv _)))) (.cons (.tup (.cons (.str _) (.cons (.tup (zx1 c)) (.cons (.tup (zxo y)) (.cons (.tup .nil) .nil))))) (.cons (.int _) .nil))))
  have G:=λ q=>gd_if (d:=d) hd hc ht g q
  obtain rfl | rfl:cl=0∨cl=1:=lt2 hcl
  ·refine ⟨.iff c t y true,_,G true,rfl,norm3 (T:=trS (.iff c t y true)) ?_ (len_S hd (G true)) r⟩
   rw [zq6]
   simp only [zzu,unsp_s,zxy,zq6,zx8,clE,owS,List.map_cons,List.map_append,List.cons_append,List.append_assoc,List.map_nil,List.nil_append]
  ·refine ⟨.iff c t y false,_,G false,rfl,norm3 (T:=trS (.iff c t y false)) ?_ (len_S hd (G false)) r⟩
   rw [zq6]
   simp only [zzu,unsp_s,zxy,zq6,zx8,clE,owS,List.map_cons,List.map_append,List.cons_append,List.append_assoc,List.map_nil,List.nil_append]
theorem mk_top (ns:List Int):MkS w p loose mg mb ns 420 1:=
 mk_i (D:=300) (.inl rfl) (mk_b (D:=250) (by decide) (.inl ⟨.inl rfl,mk_i (D:=200) (.inr (.inl rfl)) (mk_b (D:=150) (by decide) (.inl ⟨.inr rfl,mk_i (D:=100) (.inr (.inr rfl)) (mk_b (D:=50) (by decide) (.inr rfl))⟩))⟩))
end
end
section
section
variable {prog:Program}{w:World}{K:Frag}{ti:List TabI}{fr:Led}{U:SubP}{c:Cx}{RX:Cx→Led→Int→Value→Shared→Prop}{O:Out}
 {σ σ' σ₁ σ₂:St}{ad:List Ad}{own tb fz:Led}{m:Str→Option Value}{s:Shared}{p:Program}{loose:List Str}{mg mb:Str→Option Value}{D:Nat}
theorem zqf {x:Str}{sc:Scope}(h:zqt sc x=true):sc.names.lookup x=some .local:=zx5 h
theorem Loc.nilL {P:Params}:Loc K P c ad fz m []:=λ _ _ e=>nn e
theorem Loc.consL {P:Params}{x:Str}{a:AV}{v:Value}{l:List (Str × AV)}(hx:c.sc.names.lookup x=some .local) (hv:m x=some v) (h:VR K P ad fz a v) (r:Loc K P c ad fz m l):Loc K P c ad fz m ((x,a)::l):=λ y b e=>
 cd_q e (λ q e=>⟨λ _=>⟨v,zqo.mp q▸hv,.som e h⟩,λ k=>by rw [← zqo.mp q,hx] at k;rcases k with k | k<;>cases k⟩) λ _ e=>r y b e
structure Row (K:Frag) (P:Params) (ad:List Ad) (fz:Led) (a:Addr) (l:List AV) (vs:List Value):Prop where
 ob:∃ o n,Hd K fz a o∧(o.cls=.type "list" ∨ o.cls=.type "tuple")∧o.data=.seq vs.toArray n
 vs:VRs K P ad fz l vs
theorem Row.mono {P:Params}{ad':List Ad}{fz':Led}{a:Addr}{l:List AV}{vs:List Value}(hp:Pre ad ad') (hf:fz⊆fz') (x:Row K P ad fz a l vs):Row K P ad' fz' a l vs:=
 ⟨let ⟨o,n,h,r⟩:=x.ob;⟨o,n,h.mono hf,r⟩,x.vs.mono hp hf⟩
theorem sd_lenW (hRX:RXm RX) {k:Nat}{x:Str}{a:Addr}{l:List AV}{rv:List Value}{p1 p2 p3:Pos}(FA:zqr K w.params O) (FC:zxf K w.params O) (hlen:O.glob "len" = some (.blt "len")) (Y:Ok p loose mg mb K c k) (I:Inv U K w.params ti fr c σ ad own tb fz m s)
  (hk:zqt c.sc x=true) (hd:sB x "__debug__" = false) (hg:zxk c.sc "len" = true) (hl:zqn x σ.loc=some (.gref a)) (hw:Row K w.params ad fz a l rv) (hb:rv.length < 2 ^ 20) :
  Sd (model prog w) U K w.params ti fr RX c ad fz (VR K w.params) (eval (.Call (.Name "len" p1) [.Name x p2] [] p3) c.env) (ok (.int (Int.ofNat rv.length)) σ) s:=by
 refine zxh (fa:=.blt "len") (as:=[.gref a]) hRX FA FC Y I hg (by decide) hlen rfl rfl (λ s₁ ad₁ own₁ tb₁ fz₁ m₁ _ _ I₁=>zxm hRX rfl (zzv FA Y I₁ hk hd hl) λ s₂ ad₂ own₂ tb₂ fz₂ m₂ _ _ I₂=>zx0 I₂) ?_
 intro vf vs ad₁ own₁ tb₁ fz₁ m₁ s₁ hp hf I₁ hvf hvs
 replace hvf:=hvf.inv;cases hvf
 replace hvs:=hvs.inv;cases hvs with | cons g1 g2=>
 replace g2:=g2.inv;cases g2;replace g1:=g1.inv;cases g1
 obtain ⟨o,n,h1,h2,h3⟩:=hw.ob
 have ho:=I₁.hd Y.X (h1.mono hf)
 have e:((rv.toArray.size:Nat):Int)=Int.ofNat rv.length:=by simp
 rcases h2 with h2 | h2
 ·exact PyProof.Rows.len_list (items:=rv.toArray) ⟨o,ho,h2,n,h3⟩ (by simp;omega) (.mk (I₁.tok _) (by rw [e];exact .int _ _))
 ·exact PyProof.Rows.len_tuple (items:=rv.toArray) ⟨o,ho,h2,n,h3⟩ (by simp;omega) (.mk (I₁.tok _) (by rw [e];exact .int _ _))
theorem zkw {ws:List Str}{i:Nat}{x:Str}(h:ws[i]? = some x):(zqa 0 (ws.take (i + 1))).map AV.tok=(zqa 0 (ws.take i)).map AV.tok++[.tok (tokW x i)]:=by
 have hl:i < ws.length:=(List.getElem?_eq_some_iff.mp h).1
 have e:ws.take (i + 1)=ws.take i++[x]:=by rw [List.take_add_one,h];rfl
 rw [e,zqk,List.map_append]
 simp [zqa,List.length_take,Nat.min_eq_left (Nat.le_of_lt hl)]
inductive TokOut (K:Frag) (P:Params) (fz:Led) (xw xf:Ad) (x:Str) (F:List AV) (ads:List Ad) (own:Led):Prop
 | mk (x2:Ad) (fv:List Value) (es:List DictEntry) (n n3:Nat) (t1 t2 v1 v2 v3 v4 v5 v6 v7 v8 v9 t9):ads=[x2]→own=[(xf.a,listOf (fv++[Value.ref x2.a]).toArray n),(x2.a,instObj 452 x2.d),(x2.d,dictOf es n3)]→VRs K P [xw,xf,x2] fz F fv →
  es=[(⟨PyData.keyHash P "kind",.str "kind" t1,.str (kd x) v3⟩:DictEntry),⟨PyData.keyHash P "worth",.str "worth" t2,.str x v4⟩,⟨PyData.keyHash P "at",.str "at" v1,.ref v5⟩,⟨PyData.keyHash P "is_in_a",.str "is_in_a" v2,.bool false⟩] →
  Hd K fz v5 ⟨.type "tuple",v7,.seq [Value.int 3 v9,.int ((xw.z 0 + 1:Nat):Int) t9].toArray v6,v8⟩→TokOut K P fz xw xf x F ads own
@[elab_as_elim] theorem FR.qCons {K:Frag}{P:Params}{ad:List Ad}{fz:Led}{x:Str}{a:AV}{f:List (Str × AV)}{es:List DictEntry}{Q:List DictEntry→Prop}(h:FR K P ad fz ((x,a)::f) es) (k:∀ {t v es},VR K P ad fz a v→FR K P ad fz f es→Q (⟨PyData.keyHash P x,.str x t,v⟩::es)):Q es:=by
 cases h with | cons h1 h2=>exact k h1 h2
@[elab_as_elim] theorem FR.qNil {K:Frag}{P:Params}{ad:List Ad}{fz:Led}{es:List DictEntry}{Q:List DictEntry→Prop}(h:FR K P ad fz [] es) (k:Q []):Q es:=by cases h;exact k
inductive zj1 (K:Frag) (fz:Led) (xw:Ad):Value→Prop
 | mk {a:Addr}{dd sl n t1 t2}:Hd K fz a ⟨.type "tuple",dd,.seq [Value.int 3 t1,.int ((xw.z 0 + 1:Nat):Int) t2].toArray n,sl⟩→zj1 K fz xw (.ref a)
theorem VR.tokAt {K:Frag}{P:Params}{fz:Led}{ad:List Ad}{xw:Ad}{v:Value}(h:VR K P ad fz (.tup [.int 3,.off 0 0 1]) v) (hx:ad[0]? = some xw):zj1 K fz xw v:=by
 refine h.qTup rfl λ {vs a n dd sl} g1 g2=>?_
 refine g2.qCons (Q:=λ vs=>Hd K fz a ⟨.type "tuple",dd,.seq vs.toArray n,sl⟩→zj1 K fz xw (.ref a)) rfl (λ {v1 _} b1 g2=>?_) g1
 refine g2.qCons (Q:=λ vs=>Hd K fz a ⟨.type "tuple",dd,.seq (v1::vs).toArray n,sl⟩→zj1 K fz xw (.ref a)) rfl λ {v2 _} b2 g2=>?_
 refine g2.qNil (Q:=λ vs=>Hd K fz a ⟨.type "tuple",dd,.seq (v1::v2::vs).toArray n,sl⟩→zj1 K fz xw (.ref a)) ?_
 refine b1.qInt (Q:=λ v1=>Hd K fz a ⟨.type "tuple",dd,.seq [v1,v2].toArray n,sl⟩→zj1 K fz xw (.ref a)) rfl λ t1=>?_
 refine b2.qOff (Q:=λ v2=>Hd K fz a ⟨.type "tuple",dd,.seq [.int 3 t1,v2].toArray n,sl⟩→zj1 K fz xw (.ref a)) rfl λ t2 hy g1=>?_
 cases hx.symm.trans hy
 exact .mk g1
inductive TokEs (K:Frag) (P:Params) (fz:Led) (xw:Ad) (x:Str):List DictEntry→Prop
 | mk {t1 t2 t3 t4 v3 v4 v5}:zj1 K fz xw v5→TokEs K P fz xw x [⟨PyData.keyHash P "kind",.str "kind" t1,.str (kd x) v3⟩,⟨PyData.keyHash P "worth",.str "worth" t2,.str x v4⟩,⟨PyData.keyHash P "at",.str "at" t3,v5⟩,⟨PyData.keyHash P "is_in_a",.str "is_in_a" t4,.bool false⟩]
theorem FR.tokEs {K:Frag}{P:Params}{fz:Led}{ad:List Ad}{xw:Ad}{x:Str}{es:List DictEntry}(h:FR K P ad fz [("kind",.str (kd x)),("worth",.str x),("at",.tup [.int 3,.off 0 0 1]),("is_in_a",.bool false)] es) (hx:ad[0]? = some xw):TokEs K P fz xw x es:=by
 refine h.qCons λ {t1 v1 _} f1 h=>?_
 refine h.qCons (Q:=λ es=>TokEs K P fz xw x (_::es)) λ {t2 v2 _} f2 h=>?_
 refine h.qCons (Q:=λ es=>TokEs K P fz xw x (_::_::es)) λ {t3 v3 _} f3 h=>?_
 refine h.qCons (Q:=λ es=>TokEs K P fz xw x (_::_::_::es)) λ {t4 v4 _} f4 h=>?_
 refine h.qNil (Q:=λ es=>TokEs K P fz xw x (_::_::_::_::es)) ?_
 refine f1.qStr (Q:=λ v=>TokEs K P fz xw x [⟨_,_,v⟩,_,_,_]) rfl λ t1=>?_
 refine f2.qStr (Q:=λ v=>TokEs K P fz xw x [_,⟨_,_,v⟩,_,_]) rfl λ t2=>?_
 refine f4.qBool (Q:=λ v=>TokEs K P fz xw x [_,_,_,⟨_,_,v⟩]) rfl ?_
 exact .mk (f3.tokAt hx)
theorem VRs.tokF {K:Frag}{P:Params}{fz:Led}{ad:List Ad}{x2:Ad}{F:List AV}{n:Nat}{vs:List Value}{Q:List Value→Prop}(h:VRs K P ad fz [.sp F n,.hnd 2] vs) (hx:ad[2]? = some x2) (k:∀ {fv},VRs K P ad fz F fv→Q (fv++[.ref x2.a])):Q vs:=by
 cases h with
 | cons z=>exact Bool.noConfusion (show true=false from z.notSp)
 | sp a1 a2 a3 a4=>
 refine a4.qCons (Q:=λ ws=>Q (_++ws)) rfl λ {v _} b1 b2=>?_
 refine b2.qNil (Q:=λ ws=>Q (_++v::ws)) ?_
 refine b1.qHnd (Q:=λ v=>Q (_++[v])) rfl λ hy=>?_
 cases hx.symm.trans hy
 exact k a1
inductive OW3 (U:SubP) (K:Frag) (P:Params) (ad:List Ad) (fz:Led) (W:List AV) (w:AV) (l:List AV) (f:List (Str × AV)):List Ad→Led→Prop
 | mk {x y z:Ad}{vs:List Value}{es:List DictEntry}{n m:Nat}:VRs K P ad fz l vs→FR K P ad fz f es→OW3 U K P ad fz W w l f [x,y,z] [(y.a,listOf vs.toArray n),(z.a,instObj 452 z.d),(z.d,dictOf es m)]
theorem OWs.three {U:SubP}{K:Frag}{P:Params}{ad:List Ad}{fz:Led}{W:List AV}{w:AV}{l:List AV}{f:List (Str × AV)}{xs:List Ad}{own:Led}(ow:OWs U K P ad fz xs [.lstf W w,.lst l,.inst 452 f] own):OW3 U K P ad fz W w l f xs own:=by
 replace ow:=ow.inv;cases ow with | cons o1 o2=>
 replace o2:=o2.inv;cases o2 with | cons o2 o3=>
 replace o3:=o3.inv;cases o3 with | cons o3 o4=>
 replace o4:=o4.inv;cases o4
 replace o1:=o1.inv;cases o1
 replace o2:=o2.inv;cases o2 with | lst hv2=>
 replace o3:=o3.inv;cases o3 with | inst hfr=>exact .mk hv2 hfr
theorem tok_out {U:SubP}{K:Frag}{P:Params}{fz:Led}{xw xf:Ad}{x:Str}{W F:List AV}{ads:List Ad}{own:Led}(ow:OWs U K P ([xw,xf]++ads) fz ([xw,xf]++ads) [.lstf W (.str x),.lst [.sp F 3000,.hnd 2],tokI x] own):TokOut K P fz xw xf x F ads own:=by
 have key:∀ ad,OW3 U K P ad fz W (.str x) [.sp F 3000,.hnd 2] [("kind",.str (kd x)),("worth",.str x),("at",.tup [.int 3,.off 0 0 1]),("is_in_a",.bool false)] ([xw,xf]++ads) own→ad=[xw,xf]++ads→TokOut K P fz xw xf x F ads own:=by
  intro ad h e
  cases h with | mk hv hf=>
  subst e
  refine hv.tokF (Q:=λ vs=>TokOut K P fz xw xf x F _ [(xf.a,listOf vs.toArray _),_,_]) rfl λ a1=>?_
  cases hf.tokEs rfl with | mk g=>
  cases g with | mk g=>
  exact ⟨_,_,_,_,_,_,_,_,_,_,_,_,_,_,_,_,_,rfl,rfl,a1,rfl,g⟩
 exact key _ ow.three rfl
theorem tok_turn {b:Bool}(HB:Base pw_pc0148_01 w (KF w.params) ti U (outL b) p loose mg mb (D + 70)) {i k:Nat}{a:Addr}{ws:List Str}{rv:List Value}{ho:List HO}{x:Str}(hsc:c.sc=sc75) (Y:Ok p loose mg mb (KF w.params) c (40 + (D + 70))) (hk:k=ho.length) (hx:ws[i]? = some x) (hv:x∈voc) (hlen:ws.length≤2500)
  (hw:Row (KF w.params) w.params ad fz a (ws.map .str) rv)
  (I:Inv U (KF w.params) w.params ti fr c ⟨[("words",.gref a),("found",.hnd k),("at",.int (Int.ofNat i))],ho++[.lst ((zqa 0 (ws.take i)).map .tok)]⟩ ad own tb fz m s) :
  Sd (model pw_pc0148_01 w) U (KF w.params) w.params ti fr (RX1 ti) c ad fz (FlR (KF w.params) w.params) (execs bod c.env) (ok .next ⟨[("words",.gref a),("found",.hnd k)],ho++[.lst ((zqa 0 (ws.take (i + 1))).map .tok)]⟩) s:=by
 obtain ⟨o,n,r1,r2,r3⟩:=hw.ob
 obtain ⟨_,kn1,kn2,kn3,_,_⟩:=kinds694
 rw [← hsc] at kn1 kn2 kn3
 have kn1:=zqf kn1
 have kn2:=zqf kn2
 have kn3:=zqf kn3
 have hi:i < ws.length:=(List.getElem?_eq_some_iff.mp hx).1
 have hfo:(ho++[HO.lst ((zqa 0 (ws.take i)).map .tok)])[k]? = some (.lst ((zqa 0 (ws.take i)).map .tok)):=by rw [hk];simp
 obtain ⟨xf,e₁,pre,post,h1,h2,h3,h4⟩:=I.ow.split2 hfo
 replace h2:=h2.inv;cases h2 with | lst hfv=>
 rename_i fvs nf
 let led:Led:=[(xf.a,listOf fvs.toArray nf)]
 have h3:own=pre++(led++post):=h3
 let xw:Ad:=⟨a,0,0,λ _=>i,0⟩
 have pm:∀ (e tb fz:Led),(pre++(e++post)++(tb++(fr++fz))).Perm (e++(tb++((pre++(post++fr))++fz))):=λ e tb fz=>zq0
 have hfl:fvs.length≤3000:=by
  have:=hfv.plain (zxl (zqa 0 (ws.take i))▸by simp [zxl])
  rw [this,List.length_map,zzl,List.length_take]
  omega
 obtain ⟨xv,hxv,hxr⟩:=hw.vs.nth (k:=i) (a:=.str x) (by
  have:∀ (l:List Str) (j:Nat),nthA (l.map .str) j=(l[j]?).map .str:=by
   intro l
   induction l with
   | nil=>intro j;rfl
   | cons y l ih=>intro j;cases j with
    | zero=>rfl
    | succ j=>exact ih j
  rw [this,hx];rfl)
 have I₁:Inv U (KF w.params) w.params ti (pre++(post++fr)) c ⟨[("words",.hnd 0),("found",.hnd 1),("at",.off 0 0 0)],[.lstf (ws.map .str) (.str x),.lst [.sp ((zqa 0 (ws.take i)).map .tok) 3000]]⟩ [xw,xf] led tb fz m s:=by
  refine ⟨I.F,λ q hq=>I.N q (h3▸(pm led tb fz).mem_iff.mpr hq),((pm led tb fz).map _).nodup_iff.mp (h3▸I.nd),?_,I.tb,?_,I.og⟩
  ·have hvs':VRs (KF w.params) w.params [xw,xf] fz (ws.map .str) rv:=by
    have:zq4 (ws.map AV.str):=zqv ws
    exact (this _ _ _ _ _ hw.vs).mono ⟨_,rfl⟩ λ _ h=>h
   have hft:VRs (KF w.params) w.params [xw,xf] fz ((zqa 0 (ws.take i)).map .tok) fvs:=hfv.toks
   have o1:OW U (KF w.params) w.params [xw,xf] fz xw (.lstf (ws.map .str) (.str x)) []:=.lstf (x:=xw) r1 r2 r3 hvs' (by
    have:=hw.vs.plain (zqs ws)
    rw [this,List.length_map];omega) hxv (by replace hxr:=hxr.inv;cases hxr;exact .str _ _)
   have hsp:=VRs.sp (n:=3000) hft (zxl _) hfl (.nil (K:=KF w.params) (P:=w.params) (ad:=[xw,xf]) (fz:=fz))
   rw [List.append_nil] at hsp
   have o2:OW U (KF w.params) w.params [xw,xf] fz xf (.lst [.sp ((zqa 0 (ws.take i)).map .tok) 3000]) led:=.lst (n:=nf) hsp
   have:=OWs.cons o1 (OWs.cons o2 .nil)
   simpa using this
  ·obtain ⟨v1,g1,d1⟩:=(I.lo "words" (.gref a) rfl).1 kn1
   obtain ⟨v2,g2,d2⟩:=(I.lo "found" (.hnd k) rfl).1 kn2
   obtain ⟨v3,g3,d3⟩:=(I.lo "at" (.int (Int.ofNat i)) rfl).1 kn3
   refine .consL kn1 g1 (d1.qGref rfl (.hnd (x:=xw) rfl)) (.consL kn2 g2 (d2.qHnd rfl λ {y} hy=>?_) (.consL kn3 g3 (d3.qInt rfl λ t=>.off (x:=xw) (h:=0) (e:=0) (k:=0) t rfl) .nilL))
   rw [← Option.some.inj (h1.symm.trans hy)]
   exact .hnd (x:=xf) rfl
 have main:=sd_ss (RX:=RX1 ti) (λ c=>rx_m _ _ c) ((zq8 HB 40 c Y).S (pre++(post++fr))) bod _ _ _ _ _ _ _ I₁
 rw [hsc] at main
 rw [turn_run b _ _ x hv] at main
 refine wpAny_mono main (λ fl s' h=>?_) λ _ _ h=>h.elim
 obtain ⟨ad',own',tb',fz',m',hp,hfz,I₂,hfl⟩:=h
 replace hfl:=hfl.inv;cases hfl
 obtain ⟨ads,rfl⟩:=hp
 have ow:=I₂.ow
 have N₂:=I₂.N
 have nd₂:=I₂.nd
 have lo₂:=I₂.lo
 obtain ⟨x2,fv2,es,n2,n3,t1,t2,v1,v2,v3,v4,v5,v6,v7,v8,v9,t9,rfl,e5,a1,hes,g1⟩:=tok_out ow
 rw [e5] at N₂ nd₂
 generalize hf1:(xf.a,listOf (fv2++[Value.ref x2.a]).toArray n2)=f at *
 let tl:Led:=[(x2.a,instObj 452 x2.d),(x2.d,dictOf es n3)]
 have N₂:News c.h₀ c.L s'.heap ((f::tl)++(tb'++((pre++(post++fr))++fz'))):=N₂
 have nd₂:(((f::tl)++(tb'++((pre++(post++fr))++fz'))).map (·.1)).Nodup:=nd₂
 have hs:fz'⊆tl++fz':=List.subset_append_right ..
 have pm2:(pre++([f]++post)++(tb'++(fr++(tl++fz')))).Perm ((f::tl)++(tb'++((pre++(post++fr))++fz'))):=by
  refine (pm [f] tb' (tl++fz')).trans ?_
  refine List.Perm.cons _ ?_
  show (tb'++((pre++(post++fr))++(tl++fz'))).Perm (tl++(tb'++((pre++(post++fr))++fz')))
  have q:∀ a b:Led,(a++(tl++b)).Perm (tl++(a++b)):=λ a b=>by
   rw [← List.append_assoc,← List.append_assoc]
   exact List.Perm.append_right _ List.perm_append_comm
  exact ((q _ fz').append_left tb').trans (q tb' _)
 have g1':Hd (KF w.params) (tl++fz') v5 ⟨.type "tuple",v7,.seq [Value.int 3 v9,.int ((tokW x i).ix + 1) t9].toArray v6,v8⟩:=g1.mono hs
 refine ⟨ad,pre++([f]++post),tb',tl++fz',m',.refl,λ _ h=>hs (hfz h),⟨I₂.F,λ q hq=>N₂ q (pm2.mem_iff.mp hq),(pm2.map _).nodup_iff.mpr nd₂,?_,I₂.tb.mono hs,?_,I₂.og⟩,.next⟩
 ·have htk:VR (KF w.params) w.params ad (tl++fz') (.tok (tokW x i)) (.ref x2.a):=.tok ⟨x2.d,es,n3,v5,v3,v4,v9,t9,v6,v7,v8,.head _,.tail _ (.head _),by subst hes;rfl,by subst hes;rfl,by subst hes;rfl,g1'⟩
  have hrow:VRs (KF w.params) w.params ad (tl++fz') ((zqa 0 (ws.take (i + 1))).map .tok) (fv2++[.ref x2.a]):=by
   rw [zkw hx]
   exact (a1.toks.mono .refl hs).append (.cons htk .nil)
  have:=h4 ad (tl++fz') .refl (λ _ h=>hs (hfz h)) (.lst ((zqa 0 (ws.take (i + 1))).map .tok)) [f] (hf1▸.lst hrow)
  have e:(ho++[HO.lst ((zqa 0 (ws.take i)).map .tok)]).set k (.lst ((zqa 0 (ws.take (i + 1))).map .tok))=ho++[.lst ((zqa 0 (ws.take (i + 1))).map .tok)]:=by rw [hk];simp
  rw [← e]
  exact this
 ·obtain ⟨w1,c1,d1⟩:=(lo₂ "words" (.hnd 0) rfl).1 kn1
  obtain ⟨w2,c2,d2⟩:=(lo₂ "found" (.hnd 1) rfl).1 kn2
  exact .consL kn1 c1 (d1.qHnd rfl λ {y} hy=>Option.some.inj (show some xw=some y from hy)▸.gref a) (.consL kn2 c2 (d2.qHnd rfl λ {y} hy=>Option.some.inj (show some xf=some y from hy)▸.hnd h1) .nilL)
end
end
section
section
variable {w:World}{ti:List TabI}{U:SubP}{fr:Led}{c:Cx}{σ σ' σ₁ σ₂:St}{ad:List Ad}{own tb fz:Led}{m:Str→Option Value}{s:Shared}{p:Program}{loose:List Str}{mg mb:Str→Option Value}
theorem zjd (b:Bool):(outL b).glob "len" = some (.blt "len"):=by kernel_rfl
theorem sd_694 {D:Nat}{b:Bool}(HB:Base pw_pc0148_01 w (KF w.params) ti U (outL b) p loose mg mb (D + 70)) {a:Addr}{ws:List Str}{rv:List Value}(Y:Ok p loose mg mb (KF w.params) c (40 + (D + 70) + 1)) (hv:∀ x∈ws,x∈voc) (hlen:ws.length≤2500) (hw:Row (KF w.params) w.params ad fz a (ws.map .str) rv)
  (I:Inv U (KF w.params) w.params ti fr c σ ad own tb fz m s) :
  SdV (model pw_pc0148_01 w) U (KF w.params) w.params ti fr (RX1 ti) c ad fz m (.call (.ref 694) ⟨[.ref a],[]⟩) (ok (.hnd σ.ho.length) { σ with ho:=σ.ho++[.lst ((zqa 0 ws).map .tok)] }) s:=by
 have hX:RXm (RX1 ti):=λ c=>rx_m _ _ c
 have FA:=HB.FA
 have FC:=HB.FC
 have hrl:rv.length=ws.length:=by
  have:=hw.vs.plain (zqs ws)
  rw [this,List.length_map]
 have main:=sd_fnG (prog:=pw_pc0148_01) (w:=w) (fr:=fr) (U:=U) (ti:=ti) (RX:=RX1 ti) (x:=.ok (.ret (.hnd σ.ho.length)) ⟨[("words",.gref a),("found",.hnd σ.ho.length)],σ.ho++[.lst ((zqa 0 ws).map .tok)]⟩)
  hX zz6 Y (FC.fn _ _ (fn694 b)) I (.cons (.gref a) .nil) rfl (bs:=[("words",.gref a)]) rfl (λ c' h₁ tk cells m' Y' hsc I'=>?_)
 ·exact main
 ·have hsc:c'.sc=sc75:=hsc
  obtain ⟨k1,k2,k3,k4,k5,k6⟩:=kinds694
  rw [← hsc] at k1 k2 k3 k4 k5 k6
  have hw':Row (KF w.params) w.params ad (cells++fz) a (ws.map .str) rv:=hw.mono .refl (List.subset_append_right ..)
  have e:=shape694
  show Sd _ _ _ _ _ _ _ _ _ _ _ (execs (topD 75).2.2.1 c'.env) _ _
  rw [e]
  let σs:Nat→St:=λ i=>⟨[("words",.gref a),("found",.hnd σ.ho.length)],σ.ho++[.lst ((zqa 0 (ws.take i)).map .tok)]⟩
  have h1:Sd (model pw_pc0148_01 w) U (KF w.params) w.params ti fr (RX1 ti) c' ad (cells++fz) (VR (KF w.params) w.params) (eval (.List [] ⟨512,12,512,14⟩) c'.env) (ok (.hnd σ.ho.length) ⟨[("words",.gref a)],σ.ho++[.lst []]⟩) { s with heap:=h₁,toks:=tk }:=
   (zq8 HB 1 c' (Y'.le (by omega))).E fr (.List [] ⟨512,12,512,14⟩) _ _ _ _ _ _ _ I'
  refine zkh hX (σ':=σs 0) (zjy hX k1 k3 rfl h1) λ s₁ ad₁ own₁ tb₁ fz₁ m₁ hp₁ hf₁ I₁=>?_
  refine zkh hX (σ':=σs ws.length) ?_ λ s₂ ad₂ own₂ tb₂ fz₂ m₂ hp₂ hf₂ I₂=>?_
  ·have he:=sd_lenW (prog:=pw_pc0148_01) (x := "words") (p1:=⟨513,20,513,23⟩) (p2:=⟨513,24,513,29⟩) (p3:=⟨513,20,513,30⟩) hX FA FC (zjd b) Y' I₁ k2 (by decide) k6 rfl (hw'.mono hp₁ hf₁) (by omega)
   rw [hrl] at he
   refine sd_forH hX (n:=ws.length) (σ₁:=σs 0) Y' (rangeF _) rfl k5 rfl (by omega) k4 σs he I₁ rfl λ i hi fr' ad' own' tb' fz' m' s' hp hf I''=>?_
   have hx:ws[i]? = some ws[i]:=List.getElem?_eq_getElem hi
   exact tok_turn HB hsc Y' rfl hx (hv _ (List.getElem_mem hi)) hlen ((hw'.mono hp₁ hf₁).mono hp hf) I''
  ·have hfin:σs ws.length=⟨[("words",.gref a),("found",.hnd σ.ho.length)],σ.ho++[.lst ((zqa 0 ws).map .tok)]⟩:=by
    show (⟨_,_⟩:St)=_
    rw [List.take_length]
   rw [hfin] at I₂
   exact sd_last hX (sd_rete hX (zzv FA Y' I₂ k3 (by decide) rfl))
end
end
section
section
variable {prog:Program}{w:World}{K:Frag}{ti:List TabI}{fr:Led}{U:SubP}{c:Cx}{RX:Cx→Led→Int→Value→Shared→Prop}{O:Out}{P:Params}
 {σ σ' σ₁ σ₂:St}{ad:List Ad}{own tb fz:Led}{m:Str→Option Value}{s:Shared}{p:Program}{loose:List Str}{mg mb:Str→Option Value}{D:Nat}
theorem Inv.freezeL {i:Nat}{l:List AV}{x:Ad}(I:Inv U K P ti fr c σ ad own tb fz m s) (hi:σ.ho[i]? = some (.lst l)) (hx:ad[i]? = some x) :
  ∃ own' fz' vs,fz⊆fz'∧Inv U K P ti fr c { σ with ho:=σ.ho.set i .dead } ad own' tb fz' m s∧Row K P ad fz' x.a l vs:=by
 obtain ⟨vs,nn,pre,post,g1,g3,g4⟩:=I.list2 hi hx
 have hs:fz⊆(x.a,listOf vs.toArray nn)::fz:=λ _ h=>.tail _ h
 exact ⟨pre++post,_,vs,hs,I.freeze g3 g4,⟨_,nn,.inl (.head _),.inl rfl,rfl⟩,g1.mono .refl hs⟩
theorem Inv.newL {l:List AV}{vs:List Value}{D:Addr}{n t:Nat}{h':Heap}(I:Inv U K P ti fr c σ ad own tb fz m s) (hv:VRs K P ad fz l vs) (F':Fr c.h₀ c.L h' m) (N':News c.h₀ c.L h' ((D,listOf vs.toArray n)::(own++(tb++(fr++fz))))) (l1:∀ q∈own++(tb++(fr++fz)),q.1 < D) :
  ∃ ad' own',Pre ad ad'∧Inv U K P ti fr c { σ with ho:=σ.ho++[.lst l] } ad' own' tb fz m { s with heap:=h',toks:=t }∧VR K P ad' fz (.hnd σ.ho.length) (.ref D):=by
 have hp:Pre ad (ad++[Ad.of D 0]):=⟨_,rfl⟩
 refine ⟨ad++[Ad.of D 0],own++[(D,listOf vs.toArray n)],hp,I.snoc (x:=Ad.of D 0) (e:=[(D,listOf vs.toArray n)]) F' N' (λ q hq r hr=>?_) (by simp) (.lst (hv.mono hp λ _ h=>h)) t,?_⟩
 ·rw [List.mem_singleton.mp hr];exact Nat.ne_of_lt (l1 q hq)
 ·exact VR.hnd (x:=Ad.of D 0) (by rw [← I.ow.length];simp)
theorem sd_listT {k:Nat}{x:Str}{l:List AV}{q p2 pos:Pos}(hn:nsIn K mainGlobals "list" = some none) (Y:Ok p loose mg mb K c k) (I:Inv U K w.params ti fr c σ ad own tb fz m s) (hg:zxk c.sc "list" = true)
  (hk:zqt c.sc x=true) (hd:(x == ("__debug__":Str))=false) (hl:zqn x σ.loc=some (.tup l)) (hb:wtA l≤100000) :
  Sd (model prog w) U K w.params ti fr RX c ad fz (VR K w.params) (eval (.Call (.Name "list" q) [.Name x p2] [] pos) c.env) (ok (.hnd σ.ho.length) { σ with ho:=σ.ho++[.lst l] }) s:=by
 show wpAny _ _ _ _ _ _
 rw [arm_eval_Call_Name']
 refine wpAny_bind (nameX_B I.F Y.X Y.T hn rfl (by decide) ?_ Y.kf (zxj hg) (by decide))
 rw [zqe (e:=.Name x p2) rfl]
 obtain ⟨v,h1,h2⟩:=(I.lo x (.tup l) hl).1 (zqf hk)
 replace h2:=h2.inv;cases h2 with | tup h3 h4=>
 refine PySem.callWith_type rfl (evalArgs_plain (spliced_cons (nameX_L I.F h1 (spliced_nil ?_) Y.kf (zqf hk) hd)))
 have hl4:=h4.len
 obtain ⟨hp,gs,dr,tk,os⟩:=s
 show wpAny _ _ (call (.type "list") [.ref _]) _ _ _
 refine list_copyKT I.F I.N (zql I Y.X h3) (λ D c' h' F' N' l1=>?_) (by rw [sizeLine_eq];simp;omega)
 obtain ⟨ad',own',hp,I',hv⟩:=I.newL (t:=tk) h4 F' N' l1
 exact ⟨ad',own',tb,fz,m,hp,λ _ h=>h,I',hv⟩
theorem sd_addL {i j:Nat}{l r:List AV}{va vb:Value}(I:Inv U K w.params ti fr c σ ad own tb fz m s) (hi:σ.ho[i]? = some (.lst l)) (hj:σ.ho[j]? = some (.lst r)) (ha:VR K w.params ad fz (.hnd i) va) (hb:VR K w.params ad fz (.hnd j) vb) (hz:wtA l + wtA r≤100000) :
  Sd (model prog w) U K w.params ti fr RX c ad fz (VR K w.params) (binaryOp .Add va vb) (ok (.hnd σ.ho.length) { σ with ho:=σ.ho++[.lst (l++r)] }) s:=by
 replace ha:=ha.inv;cases ha with | hnd hx=>
 replace hb:=hb.inv;cases hb with | hnd hy=>
 obtain ⟨v1,n1,pre1,post1,g1,g3,_⟩:=I.list2 hi hx
 obtain ⟨v2,n2,pre2,post2,f1,f3,_⟩:=I.list2 hj hy
 have L1:s.heap.IsList _ v1.toArray:=⟨_,(I.N (_,listOf v1.toArray n1) (by rw [g3];exact List.mem_append_left _ (List.mem_append_right _ (.head _)))).1,rfl,n1,rfl⟩
 have L2:s.heap.IsList _ v2.toArray:=⟨_,(I.N (_,listOf v2.toArray n2) (by rw [f3];exact List.mem_append_left _ (List.mem_append_right _ (.head _)))).1,rfl,n2,rfl⟩
 have h1:=g1.len
 have h2:=f1.len
 obtain ⟨hp,gs,dr,tk,os⟩:=s
 refine add_lists I.F I.N L1 L2 (λ h' F' N'=>?_) (by rw [sizeLine_eq];omega)
 obtain ⟨ad',own',hp,I',hv⟩:=I.newL (t:=tk) (g1.append f1) F' N' λ q hq=>Heap.lt_size (I.N q hq).1
 exact ⟨ad',own',tb,fz,m,hp,λ _ h=>h,I',hv⟩
end
section
variable {w:World}{ti:List TabI}{U:SubP}{fr:Led}{c:Cx}{σ σ' σ₁ σ₂:St}{ad:List Ad}{own tb fz:Led}{m:Str→Option Value}{s:Shared}{p:Program}{loose:List Str}{mg mb:Str→Option Value}{D:Nat}
theorem sd_694h {b:Bool}(HB:Base pw_pc0148_01 w (KF w.params) ti U (outL b) p loose mg mb (D + 70)) {i:Nat}{ws:List Str}{v:Value}(Y:Ok p loose mg mb (KF w.params) c (40 + (D + 70) + 1)) (hv:∀ x∈ws,x∈voc) (hlen:ws.length≤2500)
  (I:Inv U (KF w.params) w.params ti fr c σ ad own tb fz m s) (hi:σ.ho[i]? = some (.lst (ws.map .str))) (ha:VR (KF w.params) w.params ad fz (.hnd i) v) :
  SdV (model pw_pc0148_01 w) U (KF w.params) w.params ti fr (RX1 ti) c ad fz m (.call (.ref 694) ⟨[v],[]⟩) (ok (.hnd σ.ho.length) { σ with ho:=σ.ho.set i .dead++[.lst ((zqa 0 ws).map .tok)] }) s:=by
 replace ha:=ha.inv;cases ha with | hnd hx=>
 obtain ⟨own',fz',vs,hf,I',hr⟩:=I.freezeL hi hx
 have:=sd_694 HB Y hv hlen hr I'
 refine codeAny_mono this λ r s' z=>?_
 cases r with
 | error e=>exact z.elim
 | ok fl=>
  cases fl with
  | ret u=>
   obtain ⟨ad',own',tb',fz₂,h1,h2,h3,h4⟩:=z
   rw [List.length_set] at h4
   exact ⟨ad',own',tb',fz₂,h1,λ _ h=>h2 (hf h),h3,h4⟩
  | _=>exact z.elim
theorem sd_694t {b:Bool}(HB:Base pw_pc0148_01 w (KF w.params) ti U (outL b) p loose mg mb (D + 70)) {ws:List Str}{v:Value}(Y:Ok p loose mg mb (KF w.params) c (40 + (D + 70) + 1)) (hv:∀ x∈ws,x∈voc) (hlen:ws.length≤2500)
  (I:Inv U (KF w.params) w.params ti fr c σ ad own tb fz m s) (ha:VR (KF w.params) w.params ad fz (.tup (ws.map .str)) v) :
  SdV (model pw_pc0148_01 w) U (KF w.params) w.params ti fr (RX1 ti) c ad fz m (.call (.ref 694) ⟨[v],[]⟩) (ok (.hnd σ.ho.length) { σ with ho:=σ.ho++[.lst ((zqa 0 ws).map .tok)] }) s:=by
 replace ha:=ha.inv;cases ha with | tup h1 h2=>
 exact sd_694 HB Y hv hlen ⟨⟨_,_,h1,.inr rfl,rfl⟩,h2⟩ I
end
end
section
section
variable {M:Model}{A:Around}{E:Value→Shared→Prop}{s:Shared}{B:Heap}
theorem fx_flight0 {l:List Env}{e d:Addr}{fl:Value}{Q:Unit→Shared→Prop}(x:Fly B l e d fl s.heap)
  (h:∀ h',Fly B l e d .none h'→s.heap.UpToSlots h'→Q () { s with heap:=h' }):wpAny M A (setFlight (.ref e) none) Q E s:=by
 have x0:=x
 obtain ⟨x1,x2,x3,oe,vs,he,hc,hd,x4⟩:=x
 unfold setFlight
 rcases x4 with ⟨q,h1⟩ | ⟨T,oT,ts,h1,hnT,hTe,hT,hdT,h3⟩
 ·subst q
  refine wpAny_bind (wpAny_field he hd h1 ?_)
  rw [if_neg (by decide)]
  exact wpAny_pure (h s.heap x0 (.refl _))
 ·have hsz:3 < ts.size:=(Array.getElem?_eq_some_iff.mp h3).1
  refine wpAny_bind (wpAny_field he hd h1 ?_)
  rw [if_pos (show (Value.ref T != Value.none)=true from by simp)]
  have other:∀ (g:Obj→Obj) b,b≠T→(s.heap.update T g).get? b=s.heap.get? b:=λ g b hb=>Heap.get?_update_other _ _ (Ne.symm hb)
  have hne:∀ b o,s.heap.get? b=some o→(∀ vs,o.data≠.fields vs)→b≠T:=λ b o hb hn q=>by rw [q,hT] at hb;cases hb;exact hn ts hdT
  refine wpAny_setField hT hdT hsz (h _ ⟨λ b o hbo=>(other _ b λ q=>by rw [q,hnT] at hbo;cases hbo).trans (x1 b o hbo),x2,ff_up x3 λ b o hb hn=>⟨o.slots,(other _ b (hne b o hb hn)).trans hb⟩,?_⟩ λ b o hb hn=>⟨o.slots,(other _ b (hne b o hb hn)).trans hb⟩)
  exact ⟨oe,vs,(other _ e (Ne.symm hTe)).trans he,hc,hd,.inr ⟨T,_,_,h1,hnT,hTe,Heap.get?_update_self _ hT (Obj.isFreed_of_fields (Obj.data_mapFields hdT _)),Obj.data_mapFields hdT _,by simp [hsz]⟩⟩
end
section
variable {prog:Program}{w:World}{K:Frag}{c:Cx}{E:Value→Shared→Prop}{p:Program}{loose:List Str}{mg mb:Str→Option Value}{m:Str→Option Value}
noncomputable abbrev Cx.fs (c:Cx):List Addr:=c.outer.filterMap (·.frame)
theorem ground_fx {B h:Heap}(B₀:Below c.A₀ c.base c.outer c.h₀) (hL:c.h₀.get? c.L=none) (hab:c.h₀.objs.size≤c.L) (hB:∀ b o,c.h₀.get? b=some o→b∉(c.env::c.outer).filterMap (·.frame)→B.get? b=some o) (hs:B.StaysIn h) (hu:c.h₀.UpToSlots h) (hn:h.Ns c.L m) :
  ∃ g',KtsTurn c.fs c.h₀ g'∧Fr g' c.L h m∧Below c.A₀ c.base c.outer g':=by
 have mem:∀ b,b∈(c.env::c.outer).filterMap (·.frame)→b=c.L∨b∈c.fs:=λ b hm=>by
  obtain ⟨env,he,hf⟩:=List.mem_filterMap.mp hm
  rcases List.mem_cons.mp he with rfl | he
  ·exact .inl (Option.some.inj hf).symm
  ·exact .inr (List.mem_filterMap.mpr ⟨env,he,hf⟩)
 obtain ⟨T,S⟩:=kts_turn_at (h:=h) (fs:=c.fs) (g:=c.h₀)
  (λ b hb=>let ⟨_,o,ho,_⟩:=B₀.frames.mem hb;⟨o,ho⟩)
  (λ b o e nm=>hs b o (hB b o e λ hm=>(mem b hm).elim (λ z=>by rw [z,hL] at e;cases e) nm))
  (λ b o e hm=>by
   obtain ⟨_,o',ho',hd⟩:=B₀.frames.mem hm
   rw [e] at ho';cases ho'
   exact hu b o e hd)
 refine ⟨_,T,⟨hn,S,by rw [T.size];exact hab⟩,⟨B₀.stack,λ b o e=>T.other b o (B₀.stays b o e) (λ hm=>by
  rw [(B₀.frames.mem hm).1] at e;cases e),B₀.frames.of_keeps λ b o e _=>?_⟩⟩
 obtain ⟨sl,hs⟩:=T.up e
 exact ⟨_,hs,rfl⟩
inductive FxHeld (P:Params) (i:Int) (ea d L:Addr) (g' h:Heap):Prop
 | mk:(ea≠L∧d≠L)→g'.get? ea=none→g'.get? d=none→(∃ oe vs,h.get? ea=some oe∧oe.cls=.ref 122∧oe.dict=some d∧oe.data=.fields vs)→∀ es n ta ot n' t1 t2 t3 t4 wv,h.get? d=some (dictOf es n)→es=[⟨PyData.keyHash P "what",.str "what" t3,wv⟩,⟨PyData.keyHash P "at",.str "at" t4,.ref ta⟩]→handedIn wv=true→ta≠L →
  h.get? ta=some ot→ot.cls=.type "tuple" → ot.data=.seq #[.int 3 t1,.int i t2] n'→FxHeld P i ea d L g' h
theorem caught_fx {ti:List TabI}{fz:Led}{i:Int}{ev:Value}{n x:Str}{np pos:Pos}{b₀:Stmt}{suite:List Stmt}{rest:List ExceptHandler}{Q:Flow→Shared→Prop}{s:Shared}(R:RX1 ti c fz i ev s) (hn:s.heap.Ns c.L m) (hab:c.h₀.objs.size≤c.L) (hL:c.h₀.get? c.L=none) (B₀:Below c.A₀ c.base c.outer c.h₀)
  (hfr:c.A.frames=some (c.env::c.outer)) (XB:K.In c.base) (TB:TopRead p loose mg mb c.base) (hk:c.sc.kind=.function) (hx:c.sc.names.lookup x=some .globalImplicit) (hd:(x == ("__debug__":Str))=false) (hy:c.sc.names.lookup n=some .local) (ex:nsIn K mainGlobals x=some (some (.ref 122))) (FX:FactsX K)
  (k:∀ ea d h' g' tk P tbl,GT ti tbl→(s.os,s.gens,s.drawn)=c.og→KtsTurn c.fs c.h₀ g'→Fr g' c.L h' (λ y=>if y=n then some (.ref ea) else m y)→Below c.A₀ c.base c.outer g'→(∀ q∈tbl++fz,h'.get? q.1=some q.2∧q.1≠c.L∧g'.get? q.1=none)→FxHeld P i ea d c.L g' h' →
   wpAny (model prog w) (c.A.mark (some (.ref ea))) (execs (b₀::suite) c.env) (λ f s₄=>wpAny (model prog w) c.A (do bindName c.env n .none;unbindBehindTheSuite c.env n pos) (λ _ s₅=>Q f s₅) E s₄) (λ _ _=>False) { s with heap:=h',toks:=tk }) :
  wpAny (model prog w) c.A (noteFrame ev c.env) (λ _ s₂=>wpAny (model prog w) c.A (setFlight ev none) (λ _ s₃=>wpAny (model prog w) c.A (handleBy ev c.env (.ExceptHandler (some (.Name x np)) (some n) (b₀::suite) pos::rest)) Q E s₃) E s₂) E s:=by
 obtain ⟨tbl,gt,og,ea,d,B,es,nd,ta,t1,t2,ot,nt,fl,rfl,a2,a3,a4,a5,a6,a7,⟨a8,a9,a10⟩,⟨P,t3,t4,wv,a11,a12⟩,a13,a14,a15⟩:=R
 obtain ⟨nm,q',N,bs,bm,hdct,sn,sub,ab,col,dd,k0,k1,k2,k3,k5,newId,f1,f2,_⟩:=FX
 refine fx_note hfr rfl a7 a2 λ h₁ x1 sm1=>?_
 refine fx_flight0 x1 λ h₂ x2 sm2=>?_
 obtain ⟨g₅,T₅,F₅,K₅⟩:=ground_fx (m:=m) B₀ hL hab a4 x2.st (a6.trans (sm1.trans sm2)) ((sm1.trans sm2).ns hn)
 have X₅:K.In g₅:=XB.keeps K₅.stays
 have P₅:TopRead p loose mg mb g₅:=TB.keeps K₅.stays
 obtain ⟨oe,vs,he,⟨hc1,hc2⟩,hdat,_⟩:=x2.at_
 have hC:=F₅.keep _ _ (X₅ _ _ f1)
 refine wpAny_handleBy_cons (codeAny_handlers_test (nameX_K F₅ X₅ P₅ ex ?_ hk hx hd)) (by intro q;cases q)
 refine wpAny_excMatches_sub_self hC he hc1 f2 (codeAny_handlers_suite_as ?_)
 refine fx_flight0 x2 λ h₃ x3 sm3=>?_
 have sm:s.heap.UpToSlots h₃:=(sm1.trans sm2).trans sm3
 obtain ⟨g₆,T₆,F₆,K₆⟩:=ground_fx (m:=m) B₀ hL hab a4 x3.st (a6.trans sm) (sm.ns hn)
 have hBL:B.get? c.L=none:=by
  obtain ⟨_,⟨L',_,hf,hn',_⟩,_⟩:=x3.ff
  obtain rfl:c.L=L':=Option.some.inj hf
  exact hn'
 have nf:∀ b o,B.get? b=some o→b≠c.L:=λ b o e q=>by rw [q,hBL] at e;cases e
 refine wpAny_storeName_local (by exact hy) F₆.ns (λ h₄ hn₄ hs₄=>?_) (by show (c.sc.kind == .class || (c.sc.kind == .module && c.L != mainGlobals))=false;rw [hk];rfl)
 have F₇:=F₆.set hn₄ hs₄
 have keep:∀ b o,b≠c.L→h₃.get? b=some o→h₄.get? b=some o:=λ b o hb e=>(hs₄.2 b hb).trans e
 obtain ⟨oe',vs',he',⟨hc1',hc2'⟩,hdat',_⟩:=x3.at_
 have hea:ea≠c.L:=λ q=>by
  obtain ⟨o,es',ep,ho,hdd,_⟩:=F₆.ns
  rw [q,ho] at he';cases he'
  rw [hdat'] at hdd;cases hdd
 have K':=k ea d h₄ g₆ (s.toks + 1) P tbl gt og T₆ F₇ K₆ (λ q hq=>⟨keep _ _ (nf _ _ (a5 q hq).1) (x3.st _ _ (a5 q hq).1),nf _ _ (a5 q hq).1,T₆.none_ _ (a5 q hq).2⟩)
  ⟨⟨hea,nf _ _ a8⟩,T₆.none_ _ a10,T₆.none_ _ a9,⟨oe',vs',keep _ _ hea he',hc1',hc2',hdat'⟩,es,nd,ta,ot,nt,t1,t2,t3,t4,wv,keep _ _ (nf _ _ a8) (x3.st _ _ a8),a11,a12,nf _ _ a13,keep _ _ (nf _ _ a13) (x3.st _ _ a13),a14,a15⟩
 exact wpAny_mono K' (λ _ _ h=>h) λ _ _ h=>h.elim
end
end
section
structure ToldF (K:Frag):Prop where
 ga:findIn K (.ref 122) "__getattribute__" = some (some (.builtin "BaseException.__getattribute__"))
 gn:findIn K (.ref 122) "__getattr__" = some none
 hd:hasDictIn K 122=true
 what:findIn K (.ref 122) "what" = some none
 at_:findIn K (.ref 122) "at" = some none
 told:findIn K (.ref 122) "told" = some (some (.ref 94))
 fn:isFn K (.ref 94)=true
 mro:∃ cd,clsIn K 122=some cd∧cd.mro=[.ref 122,.ref 97,.type "Exception",.type "BaseException",.type "object"]
theorem toldF (P:Params):ToldF (KF P):=⟨by kernel_rfl,by kernel_rfl,by kernel_rfl,by kernel_rfl,by kernel_rfl,by kernel_rfl,by kernel_rfl,let ⟨cd,h1,h2,_⟩:=(factsF P).cls;⟨cd,h1,h2⟩⟩
theorem canon_bexc_ga:(Manifest.canonical "BaseException.__getattribute__" != "object.__getattribute__")=false:=by decide +kernel
section
variable {prog:Program}{w:World}{A:Around}{E:Value→Shared→Prop}{s:Shared}{K:Frag}{x:Addr}{ox:Obj}{es:List DictEntry}{n:Nat}{name:Str}{v:Value}{expr:Bool}
theorem get_exc {Q:Value→Shared→Prop}(TF:ToldF K) (X:K.In s.heap) (I:InstAt s.heap x ox 122 (some (dictOf es n))) (ha:findIn K (.ref 122) name=some none) (hl:getL name es=some (some v)) (hv:handedIn v=true) (h:Q v { s with toks:=s.toks + 1 }) :
  wpAny (model prog w) A (getAttr (.ref x) name expr) Q E s:=by
 have hf:findObj K 122 (some (dictOf es n)) name=some (.value v):=findObj_own TF.hd ha rfl hl
 obtain ⟨hh,g,d,t,os⟩:=s
 have L0:=I.type (M:=model prog w)
 have L1:=looks_findIn (M:=model prog w) X TF.ga
 have L2:=looks_findIn (M:=model prog w) X TF.gn
 have L3:=looks_find (M:=model prog w) X I hf
 have f3:=PySem.F.attrBase_Exception.ga.bind (.ref x)
 obtain ⟨cd,hc,hb⟩:=TF.mro
 have sub:Looks (model prog w) hh (isInstance (.ref x) (.type "BaseException")) true:=I.type.andThen (looks_mroIn X (by unfold mroIn;rw [hc,Option.bind_some,hb];rfl))
 unfold getAttr getAttrBy
 refine wpAny_bind (wpAny_mkText (wpAny_holding (wpAny_bind (L0.at (wpAny_bind (L1.at ?_))))))
 have e1:(onTheHeap (Value.ref 122) && Value.builtin "BaseException.__getattribute__" == Value.builtin "object.__getattribute__")=false:=by
  rw [show (Value.builtin "BaseException.__getattribute__" == Value.builtin "object.__getattribute__")=false from by decide +kernel];rfl
 simp only [e1,Bool.false_eq_true,if_false]
 unfold getAttrByItsOwn hookBefore
 refine wpAny_bind ?_
 show wpAny _ _ (typeLookup (.ref 122) "__getattr__") _ _ _
 refine L2.at ?_
 have e2:callGetattribute (.ref x) (.str name t) (.builtin "BaseException.__getattribute__") expr=boundAndCalled (.builtin "BaseException.__getattribute__") (.ref x) (.str name t):=by
  unfold callGetattribute
  cases expr<;>rfl
 rw [e2]
 refine wpAny_bind (wpAny_attempt (wpAny_holding ?_))
 unfold boundAndCalled
 rw [f3]
 refine wpAny_bind (wpAny_pure ?_)
 refine wpAny_call ?_
 show codeAny _ _ (.call (.builtin "BaseException.__getattribute__") ⟨[.ref x,.str name t],[]⟩) _ _
 refine codeAny_call_builtin PySem.F.attrBase_Exception.ga.plain F.entry_bexc_ga (@check_slot (model prog w) _ _ _ "BaseException.__getattribute__" "BaseException" "__getattribute__" (.ref x) [.str name t] [] _ (by decide +kernel) (by decide +kernel) sub (F.args_bexc_ga _ _) ?_)
 unfold Builtin.«object.__getattribute__»
 rw [show slotArgs "__getattribute__" 1 ⟨[.ref x,.str name t],[]⟩=pure (Value.ref x,[Value.str name t]) from rfl]
 refine wpAny_bind (wpAny_pure ?_)
 dsimp only
 refine wpAny_bind ?_
 unfold Builtin.ObjectAttr.attrName
 refine wpAny_pure ?_
 refine wpAny_bind (L0.at ?_)
 refine wpAny_bind (L3.at ?_)
 dsimp only
 refine wpAny_pure ?_
 show wpAny _ _ (handedOut v) _ _ _
 rw [handedOut_of hv]
 exact wpAny_pure h
theorem method_exc {pl:Sem Bool}{Q:Value × List Value→Shared→Prop}(TF:ToldF K) (X:K.In s.heap) (I:InstAt s.heap x ox 122 (some (dictOf es n))) (hl:getL "told" es=some none) (h:Q (.ref 94,[.ref x]) s) :
  wpAny (model prog w) A (getMethod (.ref x) "told" pl) Q E s:=by
 unfold getMethod specialOf
 refine wpAny_bind (wpAny_bind (I.type.here ((looks_findIn X TF.ga).here ?_)))
 dsimp only
 rw [canon_bexc_ga,if_neg (by decide)]
 refine wpAny_bind (wpAny_bind (I.type.here ((looks_findIn X TF.gn).here ?_)))
 refine wpAny_bind (wpAny_bind (I.type.here ((looks_findIn X TF.told).here (wpAny_bind ((looks_typeIn X (beq_iff_eq.mp TF.fn)).here ?_)))))
 rw [if_neg (by decide +kernel)]
 refine wpAny_bind (wpAny_loadPart I.at_ ?_)
 have hd:=I.dict
 cases e:ox.dict with
 | none=>exact wpAny_bind (wpAny_rule (wpAny_pure h))
 | some dx=>
  rw [e] at hd
  have a:lookIn "told" (dictOf es n)=some none:=by rw [lookIn_dict,hl]
  refine wpAny_bind (wpAny_bind (wpAny_loadPart hd ?_))
  rw [nsLook_of a]
  refine wpAny_pure ?_
  exact wpAny_bind (wpAny_rule (wpAny_pure h))
end
end
section
theorem fn94:out.fn 94=some ⟨["self"],[],(metD 12 1).2.2.1,(metD 12 1).2.2.2⟩:=by kernel_rfl
theorem shape94:(metD 12 1).2.2.1=(by refine' (?f:∀ b,(metD 12 1).2.2.1=b→List Stmt) _ ?h;exact λ b _=>b;case h=>conv=>lhs;whnf):=rfl
theorem kinds94:(metD 12 1).2.2.2.kind=.function∧zqt (metD 12 1).2.2.2 "self" = true∧(metD 12 1).2.2.2.isCoroutine=false∧(metD 12 1).2.2.2.isGenerator=false∧((metD 12 1).2.2.2.names.all λ x=>x.2 != .cell)=true:=⟨by kernel_rfl,by kernel_rfl,by kernel_rfl,by kernel_rfl,by kernel_rfl⟩
section
variable {w:World}{c:Cx}{p:Program}{loose:List Str}{mg mb:Str→Option Value}{m:Str→Option Value}{s:Shared}{g:Heap}{A:Around}{led:Led}
theorem call94 {ea d:Addr}{oe:Obj}{vs:Array Value}{es:List DictEntry}{n:Nat}{wv av:Value}(B:Below c.A₀ c.base c.outer g) (X:(KF w.params).In g) (T:TopRead p loose mg mb g) (hA:A.frames=some (c.env::c.outer)) (hroom:A.depth < recursionLimit) (hk:c.sc.kind=.function)
  (F:Fr g c.L s.heap m) (N:News g c.L s.heap ((ea,oe)::(d,dictOf es n)::led)) (hc:oe.cls=.ref 122) (hd:oe.dict=some d) (hdat:oe.data=.fields vs) (h1:getL "what" es=some (some wv)) (h2:getL "at" es=some (some av)) (hw:handedIn wv=true) (ha:handedIn av=true) :
  codeAny (model pw_pc0148_01 w) A (.call (.ref 94) ⟨[.ref ea],[]⟩) (λ r s'=>match r with
   | .ok (.ret v)=>∃ D h' tk,v=.ref D∧s' = { s with heap:=h',toks:=tk }∧Fr g c.L h' m∧News g c.L h' ((D,zkd [wv,av] 0)::(ea,oe)::(d,dictOf es n)::led)
   | _=>False) s:=by
 obtain ⟨⟨name,qual,params,dV,kV,doc,pm,an,cdv,ct,oc,od,osl,dv,k1,k2,k3,_,k4⟩,_⟩:=(zje w.params).fn _ _ fn94
 obtain ⟨q1,q2,q3,q4,q5⟩:=kinds94
 have hXs:(KF w.params).In s.heap:=X.keeps F.keep
 obtain ⟨hp,gs,dr,tk0,os⟩:=s
 replace k3:=k3.inv;cases k3
 refine callX_plain (env:=c.env) B F N T.nolimit hA rfl hk (hXs _ _ k1) rfl (codeRec_of hXs k2) hroom (kp_binds hXs (λ S=>k4 [.ref ea] (by simp) (by simp) S)) (λ y hy=>?_) (λ g' L' h₁ FG F' N' B' st lt=>?_) (λ x hx=>?_) q3 q4 q1
 ·rcases List.mem_cons.mp hy with rfl | hy
  ·exact zqf q2
  ·cases hy
 ·have e:=shape94
  show wpAny _ _ (execs (metD 12 1).2.2.1 _) _ _ _
  have X':=X.keeps st
  have I:InstAt h₁ ea oe 122 (some (dictOf es n)):=⟨(N' _ (.head _)).1,hc,by unfold notCls;rw [hdat],by rw [hd];exact (N' _ (.tail _ (.head _))).1⟩
  have TF:=toldF w.params
  have hself:∀ {Q:Value→Shared→Prop}{E:Value→Shared→Prop}{pos pos':Pos}{tk:Nat}{x:Str}{v:Value},findIn (KF w.params) (.ref 122) x=some none→getL x es=some (some v)→handedIn v=true→(∀ tk',Q v ⟨h₁,gs,dr,tk',os⟩)→wpAny (model pw_pc0148_01 w) (A.deeper (envX qual (metD 12 1).2.2.2 L' 94 cdv [])) (eval (.Attribute (.Name "self" pos) x pos') (envX qual (metD 12 1).2.2.2 L' 94 cdv [])) Q E ⟨h₁,gs,dr,tk,os⟩:=by
   intro Q E pos pos' tk x v g2 g3 g4 hq
   rw [arm_eval_Attribute,zzh rfl]
   refine wpAny_bind (nameX_L F' (by rfl) (wpAny_bind (wpAny_standAt (wpAny_bind (wpAny_holding (get_exc TF (X'.keeps F'.keep) I g2 g3 g4 ?_))))) q1 (zqf q2) (by decide))
   exact wpAny_bind (wpAny_letTemporaryGo (wpAny_pure (hq _)))
  rw [e,execs_cons]
  refine wpAny_bind ?_
  rw [exec_Return_some]
  refine wpAny_bind (wpAny_standAt (wpAny_bind ?_))
  show wpAny _ _ (do standAt ⟨74,15,74,35⟩;newTuple (← spliced (backTo ⟨74,15,74,35⟩ (starEach _ _)))) _ _ _
  refine wpAny_bind (wpAny_standAt (wpAny_bind ?_))
  rw [zqe (e:=.Attribute _ _ _) rfl,zqe (e:=.Attribute _ _ _) rfl]
  refine spliced_cons ?_
  refine hself TF.what h1 hw λ tk1=>?_
  refine spliced_cons ?_
  refine hself TF.at_ h2 ha λ tk2=>spliced_nil ?_
  refine newTuple_N F' N' (λ h₂ F₂ N₂=>?_) (by rw [sizeLine_eq];simp)
  refine wpAny_pure (wpAny_pure ?_)
  exact leaveK_ F₂ N₂ λ F N=>⟨_,_,_,rfl,rfl,F,N⟩
 ·have:=List.all_eq_true.mp q5 x hx
  intro q;rw [q] at this;revert this;decide
theorem fault_ret {i:Int}{P:Params}{ea d:Addr}{p1 p2 p3 p4 p5 p6 p7 p8 p9 p10:Pos}(hp:p2.endLine=p3.line) (B:Below c.A₀ c.base c.outer g) (X:(KF w.params).In g) (T:TopRead p loose mg mb g) (hA:A.frames=some (c.env::c.outer)) (hroom:A.depth < recursionLimit) (hk:c.sc.kind=.function) (he:c.sc.names.lookup ("error":Str)=some .local)
  (F:Fr g c.L s.heap m) (N:News g c.L s.heap led) (hm:m "error" = some (.ref ea)) (H:FxHeld P i ea d c.L g s.heap) :
  wpAny (model pw_pc0148_01 w) A (execs [.Return (some (.BinOp (.Subscript (.Subscript (.Call (.Attribute (.Name "error" p1) "told" p2) [] [] p3) (.Constant (.int 1) 0 p4) p5) (.Constant (.int 1) 0 p6) p7) .Sub (.Constant (.int 1) 0 p8) p9)) p10] c.env)
   (λ f s₄=>∃ t h' tk,f=.ret (.int (i - 1) t)∧s₄ = { s with heap:=h',toks:=tk }∧Fr g c.L h' m∧News g c.L h' led) (λ _ _=>False) s:=by
 obtain ⟨⟨l1,l2⟩,n1,n2,⟨oe,vs,he1,he2,he3,he4⟩,es,n,ta,ot,n',t1,t2,t3,t4,wv,hd,hes,hw,l3,ht1,ht2,ht3⟩:=H
 have TF:=toldF w.params
 obtain ⟨hp',gs,dr,tk0,os⟩:=s
 have g1:getL "what" es=some (some wv):=by subst hes;rfl
 have g2:getL "at" es=some (some (.ref ta)):=by subst hes;rfl
 have g3:getL "told" es=some none:=by subst hes;rfl
 have N₁:News g c.L hp' ((ea,oe)::(d,dictOf es n)::led):=λ q hq=>by
  rcases List.mem_cons.mp hq with rfl | hq
  ·exact ⟨he1,l1,n1⟩
  ·rcases List.mem_cons.mp hq with rfl | hq
   ·exact ⟨hd,l2,n2⟩
   ·exact N q hq
 have main:∀ led',News g c.L hp' ((ea,oe)::(d,dictOf es n)::led')→(∀ h' D,Fr g c.L h' m→News g c.L h' ((D,zkd [wv,.ref ta] 0)::(ea,oe)::(d,dictOf es n)::led')→h'.get? ta=some ot∧News g c.L h' led) →
   wpAny (model pw_pc0148_01 w) A (execs [.Return (some (.BinOp (.Subscript (.Subscript (.Call (.Attribute (.Name "error" p1) "told" p2) [] [] p3) (.Constant (.int 1) 0 p4) p5) (.Constant (.int 1) 0 p6) p7) .Sub (.Constant (.int 1) 0 p8) p9)) p10] c.env)
   (λ f s₄=>∃ t h' tk,f=.ret (.int (i - 1) t)∧s₄ = { (⟨hp',gs,dr,tk0,os⟩:Shared) with heap:=h',toks:=tk }∧Fr g c.L h' m∧News g c.L h' led) (λ _ _=>False) ⟨hp',gs,dr,tk0,os⟩:=by
  intro led' N₂ fin
  rw [execs_cons]
  refine wpAny_bind ?_
  rw [exec_Return_some]
  refine wpAny_bind (wpAny_standAt (wpAny_bind ?_))
  rw [eval_BinOp]
  refine wpAny_bind ?_
  rw [eval_Subscript]
  refine wpAny_bind ?_
  rw [eval_Subscript]
  refine wpAny_bind ?_
  rw [arm_eval_Call,zzh rfl]
  refine wpAny_bind (nameX_L F hm (wpAny_bind (wpAny_standAt ?_)) hk he (by decide))
  unfold methodCall
  have hform:methodCallForm (([]:List PySem.Expr).length + ([]:List Keyword).length) (backTo p3 (starEach [] c.env)) (backToKw p3 (keywordEach [] c.env))=true:=by rfl
  rw [hform]
  have I:InstAt hp' ea oe 122 (some (dictOf es n)):=⟨he1,he2,by unfold notCls;rw [he4],by rw [he3];exact hd⟩
  refine wpAny_bind (wpAny_holding (method_exc TF (X.keeps F.keep) I g3 ?_))
  have hpos:methodCallPos true (.Name "error" p1) c.env p2 p3=pure p3:=by
   unfold methodCallPos
   rw [if_pos (by rw [hp];simp)]
  dsimp only
  rw [hpos]
  refine wpAny_bind (wpAny_pure ?_)
  obtain ⟨⟨name,qual,params,dV,kV,doc,pm,an,cdv,ct,oc,od,osl,dv,k1,_⟩,_⟩:=(zje w.params).fn _ _ fn94
  refine callWith_function_kw (evalArgs_nil3 ⟨⟨X.keeps F.keep _ _ k1,rfl⟩,wpAny_call (codeAny_mono (call94 B X T hA hroom hk F N₂ he2 he3 he4 g1 g2 hw rfl) λ r s' z=>?_)⟩)
  cases r with
  | error e=>exact z.elim
  | ok fl=>
  cases fl with
  | ret v=>
   obtain ⟨D,h',tk,rfl,rfl,F',N'⟩:=z
   obtain ⟨q1,q2⟩:=fin h' D F' N'
   have hD:IsTup h' D [wv,.ref ta].toArray:=⟨_,(N' _ (.head _)).1,rfl,0,rfl⟩
   have hT:IsTup h' ta [Value.int 3 t1,.int i t2].toArray:=⟨ot,q1,ht2,n',ht3⟩
   dsimp only
   refine wpAny_bind (wpAny_holding (wpAny_Constant_int (wpAny_bind (wpAny_standAt ?_))))
   refine item_tupleT (value:=.Call (.Attribute (.Name "error" p1) "told" p2) [] [] p3) (slice:=.Constant (.int 1) 0 p4) hD (by decide) (by decide) (j:=1) rfl (x:=.ref ta) rfl ?_
   refine wpAny_bind (wpAny_holding (wpAny_Constant_int (wpAny_bind (wpAny_standAt ?_))))
   refine item_tupleT (value:=.Subscript (.Call (.Attribute (.Name "error" p1) "told" p2) [] [] p3) (.Constant (.int 1) 0 p4) p5) (slice:=.Constant (.int 1) 0 p6) hT (by decide) (by decide) (j:=1) rfl (x:=.int i t2) rfl ?_
   refine wpAny_bind (wpAny_holding (wpAny_Constant_int (wpAny_bind (wpAny_standAt (wpAny_operating ?_)))))
   refine PyProof.Rows.sub_int ?_
   exact wpAny_pure (wpAny_pure ⟨_,_,_,rfl,rfl,F',q2⟩)
  | _=>exact z.elim
 by_cases hg:g.get? ta=none
 ·exact main ((ta,ot)::led) (λ q hq=>by
   rcases List.mem_cons.mp hq with rfl | hq
   ·exact N₁ _ (.head _)
   ·rcases List.mem_cons.mp hq with rfl | hq
    ·exact N₁ _ (.tail _ (.head _))
    ·rcases List.mem_cons.mp hq with rfl | hq
     ·exact ⟨ht1,l3,hg⟩
     ·exact N q hq) λ h' D F' N'=>⟨(N' _ (.tail _ (.tail _ (.tail _ (.head _))))).1,λ q hq=>N' q (.tail _ (.tail _ (.tail _ (.tail _ hq))))⟩
 ·obtain ⟨o,ho⟩:=Option.ne_none_iff_exists'.mp hg
  have e:=F.keep _ _ ho
  rw [show hp'.get? ta=some ot from ht1] at e
  cases e
  exact main led N₁ λ h' D F' N'=>⟨F'.keep _ _ ho,λ q hq=>N' q (.tail _ (.tail _ (.tail _ hq)))⟩
end
end
section
section
variable {prog:Program}{w:World}{K:Frag}{ti:List TabI}{fr:Led}{U:SubP}{c:Cx}{RX:Cx→Led→Int→Value→Shared→Prop}{O:Out}{P:Params}
 {σ σ' σ₁ σ₂:St}{ad:List Ad}{own tb fz:Led}{m:Str→Option Value}{s:Shared}{p:Program}{loose:List Str}{mg mb:Str→Option Value}{D:Nat}
theorem enterH {n a:Nat}{fd:Fn}{as:List AV}{vs:List Value}{bs:List (Str × AV)}{R:Result→Shared→Prop}(Y:Ok p loose mg mb K c (n + 1)) (ho:c.outer=[]) (hc:c.cl=[]) (hf:zqw K w.params a fd)
  (hce:(fd.scope.names.all λ x=>x.2 != .cell)=true) (hlo:(fd.params.all λ y=>fd.scope.names.lookup y == some .local)=true) (hdf:fd.dfl=[]) (I:Inv U K w.params ti fr c σ ad own tb fz m s) (hv:VRs K w.params [] fz as vs) (hp:zqc as=true)
  (e1:bindA fd.params as fd.dfl=some bs)
  (run:∀ c' h₁ tk m',c'.og=c.og→c'.base=c.base→c'.outer=[c.env]→c'.A₀=c.A→Ok p loose mg mb K c' n→c'.sc=fd.scope→Inv U K w.params ti (own++fr) c' ⟨bs,[]⟩ [] [] tb fz m' { s with heap:=h₁,toks:=tk } →
   wpAny (model prog w) c'.A (execs fd.body c'.env) (λ fl s'=>LeaveS0 [c.L] c.h₀ c.L m c'.h₀ R (match fl with | .ret v=>v | _=>.none) s') (λ _ _=>False) { s with heap:=h₁,toks:=tk }) :
  codeAny (model prog w) c.A (.call (.ref a) ⟨vs,[]⟩) R s:=by
 obtain ⟨A,A₀,base,h₀,outer,L,a₀,cn,sc,ccd,cl,og⟩:=c
 dsimp only at ho hc
 subst ho hc
 obtain ⟨⟨name,qual,params,dV,kV,doc,pm,an,cdv,ct,oc,od,osl,dv,k1,k2,k3,k5,k4⟩,f2,f3,f4,f5,f6,f7,f8⟩:=hf
 obtain ⟨b1,b2,b3⟩:=bind_rel (k3.mono (.refl (ad:=[])) (List.nil_subset fz)) f2 e1 hv hp
 generalize hbn:fd.params.zip (vs++dv.drop (dv.length - (fd.params.length - vs.length)))=binds at b3
 have hkeys:binds.map (·.1)=fd.params:=by
  rw [← hbn];exact zip_keys (by simp;omega)
 have hXs:K.In s.heap:=Y.X.keeps I.F.keep
 obtain ⟨mean,TM⟩:=Y.top
 obtain ⟨hp',gs,dr,tk0,os⟩:=s
 refine code_defS0 Y.B I.F Y.X I.N TM Y.hA k1 k2 (by have:=Y.dep;simp [recursionLimit];dsimp only at this;omega) (kp_binds hXs (λ S=>hbn▸k4 vs b1 b2 S)) (λ y hy=>?_) (λ g L' h₁ FG F' N' B' X' T' _=>?_) Y.kf f3 f4 f5 (λ x hx=>?_)
 ·exact eq_of_beq (List.all_eq_true.mp hlo y.1 (hkeys▸List.mem_map_of_mem hy))
 ·have st:h₀.StaysIn g:=FG.keep
  have pm:(([]:Led)++(tb++((own++fr)++fz))).Perm (own++(tb++(fr++fz))):=by
   show (tb++((own++fr)++fz)).Perm _
   rw [List.append_assoc own fr fz,← List.append_assoc tb,← List.append_assoc own tb]
   exact List.Perm.append_right _ List.perm_append_comm
  let c':Cx:=⟨A.deeper (envOf qual fd.scope L' a cdv),A,base,g,[envOf cn sc L a₀ ccd],L',a,qual,fd.scope,cdv,[],og⟩
  refine wpAny_mono (run c' h₁ _ _ rfl rfl rfl rfl ⟨B',X',Y.T.keeps st,Around.frames_deeper Y.hA,Y.hh,?_,?_,f5,⟨mean,T'⟩,Y.XB,λ i hi=>?_⟩ rfl ⟨F',λ q hq=>N' q (pm.mem_iff.mp hq),(pm.map _).nodup_iff.mpr I.nd,.nil,I.tb,?_,I.og⟩) (λ _ _ h=>h) λ _ _ h=>h.elim
  ·have:=Y.dep;show A.depth + 1 + n≤990;dsimp only at this;omega
  ·have:=Y.un;show A.units + 3 + 4 * n≤9700;dsimp only at this;omega
  ·obtain ⟨c₀,e1,e2,e3⟩:=k5 i hi
   exact ⟨c₀,e1,codeHd_of X' e2,e3⟩
  ·intro x av e
   obtain ⟨v,h1,h2⟩:=b3.look e
   have hx:x∈fd.params:=hkeys▸zjq h1
   have hl:fd.scope.names.lookup x=some .local:=eq_of_beq (List.all_eq_true.mp hlo x hx)
   refine ⟨λ k=>⟨v,?_,h2⟩,λ k=>?_⟩
   ·show binds.reverse.lookup x=some v
    exact rev_lookup (hkeys▸f6) h1
   ·rcases k with k | k<;>exact absurd (hl.symm.trans k) (by simp)
 ·have:=List.all_eq_true.mp hce x hx
  intro q;rw [q] at this;revert this;decide
theorem zjl {own' own tb fr fz:Led}:(own++(tb++(fr++(own'++fz)))).Perm (own'++(tb++((own++fr)++fz))):=by
 have e1:(own'++(tb++((own++fr)++fz))).Perm ((tb++((own++fr)++fz))++own'):=List.perm_append_comm
 refine List.Perm.trans ?_ e1.symm
 have e2:(own'++fz).Perm (fz++own'):=List.perm_append_comm
 refine (List.Perm.append_left own (List.Perm.append_left tb (List.Perm.append_left fr e2))).trans ?_
 rw [← List.append_assoc own tb,List.append_assoc tb _ own',List.append_assoc (own++fr) fz own',List.append_assoc own fr (fz++own'),← List.append_assoc tb own]
 exact List.Perm.append_right _ List.perm_append_comm
theorem leave_ok {U':SubP}{c':Cx}{R:Result→Shared→Prop}{a:AV}{v:Value}{s':Shared}{ad':List Ad}{own' tb' fz':Led}{m':Str→Option Value}(I:Inv U K P ti fr c σ ad own tb fz m s) (I':Inv U' K P ti (own++fr) c' σ₂ ad' own' tb' fz' m' s') (hog:c'.og=c.og) (hf:fz⊆fz')
  (hv:VR K P [] fz' a v) (k:OkM U K P ti fr c ad fz m a σ v s'→R (.ok (.ret v)) s'):LeaveS0 [c.L] c.h₀ c.L m c'.h₀ R v s':=by
 refine leaveS0_ I'.F I'.N .refl λ F N=>k ?_
 have hs:fz'⊆own'++fz':=List.subset_append_right _ _
 refine ⟨ad,own,tb',own'++fz',.refl,λ _ h=>hs (hf h),⟨F,λ q hq=>N q (zjl.mem_iff.mp hq),(zjl.map _).nodup_iff.mpr I'.nd,I.ow.mono .refl λ _ h=>hs (hf h),I'.tb.mono hs,I.lo.mono .refl λ _ h=>hs (hf h),I'.og.trans hog⟩,hv.mono ⟨ad,rfl⟩ hs⟩
theorem GT.keys:∀ {is:List TabI}{l:Led},GT is l→l.map (·.1)=is.map (·.P):=by
 intro is l h
 induction h with
 | nil=>rfl
 | cons a ih=>rw [List.map_cons,List.map_cons,ih]
theorem Tabs.keys:∀ {fz:Led}{is:List TabI}{l:Led},Tabs fz is l→l.map (·.1)=is.map (·.P):=λ h=>h.gt.keys
noncomputable def GrT (ti:List TabI) (fz:Led):Prop:=∃ tbl,GT ti tbl∧tbl⊆fz
theorem GrT.mono {fz fz':Led}(h:fz⊆fz') (x:GrT ti fz):GrT ti fz':=let ⟨t,g,q⟩:=x;⟨t,g,λ _ m=>h (q m)⟩
inductive OkT (U:SubP) (K:Frag) (P:Params) (ti:List TabI) (fr:Led) (c:Cx) (ad:List Ad) (fz:Led) (m:Str→Option Value) (a:AV) (σ:St) (v:Value) (s:Shared):Prop
 | pk (ad':List Ad) (own fz':Led):Pre ad ad'→fz⊆fz'→GrT ti fz'→Inv U K P [] fr c σ ad' own [] fz' m s→VR K P ad' fz' a v→OkT U K P ti fr c ad fz m a σ v s
theorem leave_fx {c':Cx}{R:Result→Shared→Prop}{a:AV}{v:Value}{s':Shared}{g':Heap}{m':Str→Option Value}{tbl:Led}(I:Inv U K P ti fr c σ ad own tb fz m s) (G:GT ti tbl) (hog:(s'.os,s'.gens,s'.drawn)=c.og) (T:KtsTurn [c.L] c'.h₀ g') (F':Fr g' c'.L s'.heap m') (N':News g' c'.L s'.heap (tbl++((own++fr)++fz)))
  (hv:VR K P [] fz a v) (k:OkT U K P ti fr c ad fz m a σ v s'→R (.ok (.ret v)) s'):LeaveS0 [c.L] c.h₀ c.L m c'.h₀ R v s':=by
 refine leaveS0_ F' N' T λ F N=>k ?_
 have pm:(own++([]++(fr++(tbl++fz)))).Perm (tbl++((own++fr)++fz)):=by
  have:=zjl (own':=tbl) (own:=own) (tb:=[]) (fr:=fr) (fz:=fz)
  simpa using this
 have pm2:((own++(tb++(fr++fz))).map (·.1)).Perm ((tbl++((own++fr)++fz)).map (·.1)):=by
  have e1:(own++(tb++(fr++fz))).Perm (tb++(own++(fr++fz))):=by
   rw [← List.append_assoc own tb,← List.append_assoc tb own]
   exact List.Perm.append_right _ List.perm_append_comm
  refine (e1.map _).trans ?_
  rw [List.map_append,List.map_append (l₁:=tbl),I.tb.keys,G.keys,List.append_assoc]
 have hs:fz⊆tbl++fz:=List.subset_append_right _ _
 exact ⟨ad,own,tbl++fz,.refl,hs,⟨tbl,G,List.subset_append_left _ _⟩,⟨F,λ q hq=>N q (pm.mem_iff.mp hq),(pm.map _).nodup_iff.mpr (pm2.nodup_iff.mp I.nd),I.ow.mono .refl hs,.nil,I.lo.mono .refl hs,hog⟩,hv.mono ⟨ad,rfl⟩ hs⟩
end
end
section
section
variable {prog:Program}{w:World}{K:Frag}{ti:List TabI}{fr:Led}{U:SubP}{c:Cx}{RX:Cx→Led→Int→Value→Shared→Prop}{O:Out}{P:Params}
 {σ σ' σ₁ σ₂:St}{ad:List Ad}{own tb fz:Led}{m:Str→Option Value}{s:Shared}{p:Program}{loose:List Str}{mg mb:Str→Option Value}{D:Nat}
theorem OWs.cut {A B:List HO}:∀ {xs:List Ad}{e:Led},OWs U K P ad fz xs (A++B) e→∃ x1 x2 e1 e2,xs=x1++x2∧e=e1++e2∧OWs U K P ad fz x1 A e1∧OWs U K P ad fz x2 B e2:=by
 induction A with
 | nil=>intro xs e h;exact ⟨[],xs,[],e,rfl,rfl,.nil,h⟩
 | cons o A ih=>
  intro xs e h
  replace h:=h.inv;cases h with | cons a b=>
  obtain ⟨x1,x2,e1,e2,rfl,rfl,h1,h2⟩:=ih b
  exact ⟨_::x1,x2,_++e1,e2,rfl,(List.append_assoc ..).symm,.cons a h1,h2⟩
theorem OWs.app {A B:List HO}:∀ {x1 x2:List Ad}{e1 e2:Led},OWs U K P ad fz x1 A e1→OWs U K P ad fz x2 B e2→OWs U K P ad fz (x1++x2) (A++B) (e1++e2):=by
 induction A with
 | nil=>intro x1 x2 e1 e2 h1 h2;replace h1:=h1.inv;cases h1;exact h2
 | cons o A ih=>
  intro x1 x2 e1 e2 h1 h2
  replace h1:=h1.inv;cases h1 with | cons a b=>
  rw [List.append_assoc]
  exact .cons a (ih b h2)
noncomputable def Still (A:List HO):Prop:=∀ (U:SubP) (K:Frag) (P:Params) (ad ad':List Ad) (fz:Led) (xs:List Ad) (e:Led),OWs U K P ad fz xs A e→OWs U K P ad' fz xs A e
theorem still_nil:Still []:=λ _ _ _ _ _ _ _ _ h=>by replace h:=h.inv;cases h;exact .nil
theorem still_src {tp:List Tape}:Still [.src tp]:=λ _ _ _ _ _ _ _ _ h=>by
 replace h:=h.inv;cases h with | cons a b=>
 replace b:=b.inv;cases b
 replace a:=a.inv;cases a with | src a1 a2 a3 a4 a5=>exact .cons (.src a1 a2 a3 a4 a5) .nil
noncomputable def HdF (ad ad':List Ad) (a a':AV):Prop:=∀ K P fz v,VR K P ad fz a v→VR K P ad' fz a' v
theorem HdF.pure {ad ad':List Ad}{a:AV}(h:Pure a):HdF ad ad' a a:=λ K P fz v x=>(h.2 K P ad fz v x).mono ⟨ad',rfl⟩ λ _ h=>h
theorem Loc.map {ad':List Ad}{loc loc':List (Str × AV)}(h:Loc K P c ad fz m loc) (hl:∀ y a',zqn y loc'=some a'→∃ a,zqn y loc=some a∧HdF ad ad' a a'):Loc K P c ad' fz m loc':=λ x a' e=>by
 obtain ⟨a,h1,h2⟩:=hl x a' e
 obtain ⟨g1,g2⟩:=h x a h1
 refine ⟨λ k=>?_,λ k=>?_⟩
 ·obtain ⟨v,e1,e2⟩:=g1 k
  exact ⟨v,e1,h2 _ _ _ _ e2⟩
 ·obtain ⟨b,co,v,e1,e2,e3,e4⟩:=g2 k
  exact ⟨b,co,v,e1,e2,e3,h2 _ _ _ _ e4⟩
theorem toks_pure {ad':List Ad}:∀ {toks:List Tk}{vs:List Value},VRs K P ad fz (toks.map .tok) vs→VRs K P ad' fz (toks.map .tok) vs
 | [],_,h=>by replace h:=h.inv;cases h;exact .nil
 | t::l,_,h=>by
  replace h:=h.inv;cases h with | cons a b=>
  replace a:=a.inv;cases a with | tok a=>exact .cons (.tok a) (toks_pure b)
theorem fdict_pure {ad':List Ad}{fz':Led}{l:List Str}{v:Value}(hs:fz⊆fz') (h:VR K P ad fz (.fdict l) v):VR K P ad' fz' (.fdict l) v:=by
 replace h:=h.inv;cases h with | fdict g=>exact .fdict (g.mono hs)
theorem perm_rdr {e1 e2:Led}{xa ya yd:Addr × Obj}:((e1++([yd]++[]))++(tb++(fr++(ya::xa::(e2++fz))))).Perm ((e1++(e2++([xa]++([ya,yd]++[]))))++(tb++(fr++fz))):=by
 have e:(e1++(e2++([xa]++([ya,yd]++[]))))++(tb++(fr++fz))=e1++((e2++[xa,ya])++(yd::((tb++fr)++fz))):=by simp
 have e':(e1++([yd]++[]))++(tb++(fr++(ya::xa::(e2++fz))))=e1++(yd::((tb++fr)++(ya::xa::(e2++fz)))):=by simp
 rw [e,e']
 refine List.Perm.append_left e1 ?_
 refine List.Perm.trans ?_ (List.perm_middle).symm
 refine List.Perm.cons yd ?_
 have q:((e2++[xa,ya])++((tb++fr)++fz)).Perm ((tb++fr)++((e2++[xa,ya])++fz)):=by
  rw [← List.append_assoc (e2++[xa,ya]) (tb++fr) fz,← List.append_assoc (tb++fr) (e2++[xa,ya]) fz]
  exact List.Perm.append_right _ List.perm_append_comm
 refine List.Perm.trans ?_ q.symm
 refine List.Perm.append_left _ ?_
 show ([ya,xa]++(e2++fz)).Perm _
 rw [← List.append_assoc]
 refine List.Perm.append_right _ ?_
 exact List.perm_append_comm.trans (List.Perm.append_left e2 (List.Perm.swap _ _ _))
theorem zOK_tks {z:Nat→Nat}{e:Nat}:∀ (toks:List Tk) {p:Nat},zOK z e p (toks.map .tk)
 | [],_=>trivial
 | _::l,_=>zOK_tks l
theorem tks_nosub (toks:List Tk) (pre:List Item) (f:Nat) (hd:Tk) (tl:List Tk) (o:AV ⊕ Int) (post:List Item) (e:toks.map .tk=pre++Item.sub f hd tl o::post):U.blk f (hd::tl) o (flat post):=by
 have:Item.sub f hd tl o∈toks.map Item.tk:=by rw [e];exact List.mem_append_right _ (.head _)
 obtain ⟨_,_,q⟩:=List.mem_map.mp this
 cases q
inductive FIn (K:Frag) (P:Params) (ad:List Ad) (fz:Led) (j:Nat) (l:List Str):List DictEntry→Prop
 | mk {t1 t2 t3 t4:Tok}{z:Ad}{v:Value}:ad[j]? = some z→VR K P ad fz (.fdict l) v→FIn K P ad fz j l [⟨PyData.keyHash P "tokens",.str "tokens" t1,.ref z.a⟩,⟨PyData.keyHash P "at",.str "at" t2,.int 0 t3⟩,⟨PyData.keyHash P "named",.str "named" t4,v⟩]
theorem FR.fin {j:Nat}{l:List Str}{es:List DictEntry}(h:FR K P ad fz [("tokens",.hnd j),("at",.int 0),("named",.fdict l)] es):FIn K P ad fz j l es:=by
 refine h.qCons λ {t1 v1 _} f1 h=>?_
 refine h.qCons (Q:=λ es=>FIn K P ad fz j l (_::es)) λ {t2 v2 _} f2 h=>?_
 refine h.qCons (Q:=λ es=>FIn K P ad fz j l (_::_::es)) λ {t3 v3 _} f3 h=>?_
 refine h.qNil (Q:=λ es=>FIn K P ad fz j l (_::_::_::es)) ?_
 refine f1.qHnd (Q:=λ v=>FIn K P ad fz j l [⟨_,_,v⟩,_,_]) rfl λ hy=>?_
 refine f2.qInt (Q:=λ v=>FIn K P ad fz j l [_,⟨_,_,v⟩,_]) rfl λ _=>?_
 exact .mk hy f3
inductive RdIn (U:SubP) (K:Frag) (P:Params) (ad:List Ad) (fz:Led) (A B:List HO) (tk:List AV) (j:Nat) (l:List Str):List Ad→Led→Prop
 | mk {ad₁ ad₂:List Ad}{x y:Ad}{e1 e2:Led}{vs:List Value}{n1 n2:Nat}{es:List DictEntry}:OWs U K P ad fz ad₁ A e1→ad₁.length=A.length→ad₂.length=B.length→VRs K P ad fz tk vs→FIn K P ad fz j l es →
  RdIn U K P ad fz A B tk j l (ad₁++(ad₂++[x,y])) (e1++(e2++([(x.a,listOf vs.toArray n1)]++([(y.a,instObj 637 y.d),(y.d,dictOf es n2)]++[]))))
theorem OWs.rdin {A B:List HO}{tk:List AV}{j:Nat}{l:List Str}{xs:List Ad}{e:Led}(h:OWs U K P ad fz xs (A++(B++[.lst tk,.inst 637 [("tokens",.hnd j),("at",.int 0),("named",.fdict l)]])) e):RdIn U K P ad fz A B tk j l xs e:=by
 obtain ⟨ad₁,adr,e1,er,rfl,rfl,o1,or⟩:=h.cut
 obtain ⟨ad₂,ad₃,e2,e3,rfl,rfl,o2,o3⟩:=or.cut
 clear h or
 replace o3:=o3.inv;cases o3 with | cons a1 o4=>
 replace o4:=o4.inv;cases o4 with | cons a2 o5=>
 replace o5:=o5.inv;cases o5
 replace a1:=a1.inv;cases a1 with | lst v1=>
 replace a2:=a2.inv;cases a2 with | inst f1=>
 exact .mk o1 o1.length o2.length v1 f1.fin
theorem get_xy {ad₁ ad₂:List Ad}{x y:Ad}{a b:Nat}(h1:ad₁.length=a) (h2:ad₂.length=b):(ad₁++(ad₂++[x,y]))[a + b]? = some x∧(ad₁++(ad₂++[x,y]))[a + b + 1]? = some y:=by
 subst h1;subst h2
 rw [← List.append_assoc,List.getElem?_append_right (by rw [List.length_append];exact Nat.le_refl _),List.getElem?_append_right (by rw [List.length_append];exact Nat.le_succ _),List.length_append,Nat.sub_self,Nat.add_sub_cancel_left]
 exact ⟨rfl,rfl⟩
theorem FIn.to_rdr {A B:List HO}{toks:List Tk}{l:List Str}{loc loc':List (Str × AV)}{es:List DictEntry}{ad₁ ad₂:List Ad}{x y:Ad}{e1 e2:Led}{vs:List Value}{n1 n2:Nat}{H:List HO}(f:FIn K P (ad₁++(ad₂++[x,y])) fz (A.length + B.length) l es)
  (I:Inv U K P ti fr c ⟨loc,H⟩ (ad₁++(ad₂++[x,y])) (e1++(e2++([(x.a,listOf vs.toArray n1)]++([(y.a,instObj 637 y.d),(y.d,dictOf es n2)]++[])))) tb fz m s) (h1:ad₁.length=A.length) (h2:ad₂.length=B.length) (g:(ad₁++(ad₂++[x,y]))[A.length + B.length]? = some x∧(ad₁++(ad₂++[x,y]))[A.length + B.length + 1]? = some y)
  (v1:VRs K P (ad₁++(ad₂++[x,y])) fz (toks.map .tok) vs) (o1:∀ {ad'},OWs U K P ad' fz ad₁ A e1) (ht:toks.length < 2 ^ 20)
  (hl:∀ z,ad₁++(ad₂++[x,y])=ad₁++(ad₂++[x,y])→ad₁.length=A.length→ad₂.length=B.length→z.a=y.a→∀ n a',zqn n loc'=some a'→∃ a,zqn n loc=some a∧HdF (ad₁++(ad₂++[x,y])) (ad₁++[z]) a a') :
  ∃ ad₁' z own' fz',fz⊆fz'∧Pre ad₁' (ad₁++(ad₂++[x,y]))∧ad₁'.length=A.length∧z.z 0=0∧z.n=toks.length∧(∃ y',(ad₁++(ad₂++[x,y]))[A.length + B.length + 1]? = some y'∧z.a=y'.a)∧Inv U K P ti fr c ⟨loc',A++[.rdr 0 0 (toks.map .tk) (.fdict l)]⟩ (ad₁'++[z]) own' tb fz' m s:=by
 cases f with | mk t1 t3=>
 rename_i t1' t2' t3' t4' z v
 obtain rfl:=Option.some.inj (t1.symm.trans g.1)
 have hs:fz⊆(y.a,instObj 637 y.d)::(z.a,listOf vs.toArray n1)::(e2++fz):=λ q hq=>.tail _ (.tail _ (List.mem_append_right _ hq))
 have orr:=OW.rdr (U:=U) (K:=K) (P:=P) (ad:=ad₁++[⟨y.a,y.d,z.a,λ _=>0,toks.length⟩]) (fz:=(y.a,instObj 637 y.d)::(z.a,listOf vs.toArray n1)::(e2++fz)) (x:=⟨y.a,y.d,z.a,λ _=>0,toks.length⟩) (e:=0) (k:=0) (rest:=toks.map .tk) (n2:=n2) (t1:=t1') (t2:=t2') (t3:=t3') (t4:=t4') (.head _) (.tail _ (.head _)) (by rw [List.toList_toArray];exact (toks_pure v1).mono ⟨_,rfl⟩ hs) (zqd toks) rfl ht (Nat.zero_le _) (zOK_tks toks) (tks_nosub toks) (fdict_pure hs t3)
 exact ⟨ad₁,⟨y.a,y.d,z.a,λ _=>0,toks.length⟩,_,_,hs,⟨_,rfl⟩,h1,rfl,rfl,⟨y,g.2,rfl⟩,I.F,λ q hq=>I.N q (perm_rdr.mem_iff.mp hq),(perm_rdr.map _).nodup_iff.mpr I.nd,OWs.app (o1.mono .refl hs) (.cons orr .nil),I.tb.mono hs,(I.lo.map (hl ⟨y.a,y.d,z.a,λ _=>0,toks.length⟩ rfl h1 h2 rfl)).mono .refl hs,I.og⟩
theorem to_rdr {A B:List HO}{toks:List Tk}{l:List Str}{loc loc':List (Str × AV)}{j:Nat}(I:Inv U K P ti fr c ⟨loc,A++(B++[.lst (toks.map .tok),.inst 637 [("tokens",.hnd j),("at",.int 0),("named",.fdict l)]])⟩ ad own tb fz m s)
  (hj:j=A.length + B.length) (hA:Still A) (ht:toks.length < 2 ^ 20)
  (hl:∀ ad₁ ad₂ x y z,ad=ad₁++(ad₂++[x,y])→ad₁.length=A.length→ad₂.length=B.length→z.a=y.a→∀ n a',zqn n loc'=some a'→∃ a,zqn n loc=some a∧HdF ad (ad₁++[z]) a a') :
  ∃ ad₁ z own' fz',fz⊆fz'∧Pre ad₁ ad∧ad₁.length=A.length∧z.z 0=0∧z.n=toks.length∧(∃ y,ad[A.length + B.length + 1]? = some y∧z.a=y.a)∧Inv U K P ti fr c ⟨loc',A++[.rdr 0 0 (toks.map .tk) (.fdict l)]⟩ (ad₁++[z]) own' tb fz' m s:=by
 subst hj
 have R:=I.ow.rdin
 cases R with | mk o1 h1 h2 v1 f=>
 rename_i ad₁ ad₂ x y e1 e2 vs n1 n2 es
 exact f.to_rdr I h1 h2 (get_xy h1 h2) v1 (hA U K P _ _ _ _ _ o1) ht (hl ad₁ ad₂ x y)
end
end
section
noncomputable abbrev sc77:Scope:=(topD 77).2.2.2
noncomputable def st708:List Stmt:=(topD 77).2.2.1.take 2
theorem cut708:(topD 77).2.2.1=st708++(topD 77).2.2.1.drop 2:=(List.take_append_drop 2 _).symm
theorem shape708:st708=(by refine' (?f:∀ a b,st708=[a,b]→List Stmt) _ _ ?h;exact λ a b _=>[a,b];case h=>(conv=>lhs;whnf);exact rfl):=rfl
theorem fn708 (b:Bool):(outL b).fn 708=some ⟨["words", "read"],[],(topD 77).2.2.1,sc77⟩:=by kernel_rfl
theorem zja:sc77.kind=.function∧zqt sc77 "words" = true∧zqt sc77 "read" = true∧zqt sc77 "reader" = true∧zxk sc77 "list" = true∧zxk sc77 "Reader" = true ∧
  zxk sc77 "_law_tokens" = true∧zxk sc77 "_law_body" = true∧zxk sc77 "len" = true∧zxk sc77 "GrammarFault" = true∧zqt sc77 "error" = true:=
 ⟨by kernel_rfl,by kernel_rfl,by kernel_rfl,by kernel_rfl,by kernel_rfl,by kernel_rfl,by kernel_rfl,by kernel_rfl,by kernel_rfl,by kernel_rfl,by kernel_rfl⟩
theorem list_is (P:Params):nsIn (KF P) mainGlobals "list" = some none:=by kernel_rfl
theorem zkq (b:Bool):(outL b).glob "Reader" = some (.gref 637):=by kernel_rfl
theorem zkp (b:Bool):(outL b).glob "_law_tokens" = some (.gref 694):=by kernel_rfl
theorem mk_reader (b:Bool) (l:List (Str × AV)) (h0 h1 h2:HO) (T:List AV):(run (outL b) 30).C (.gref 637) [.hnd 3] ⟨l,[h0,h1,h2,.lst T]⟩=ok (.hnd 4) ⟨l,[h0,h1,h2,.lst T,.inst 637 [("tokens",.hnd 3),("at",.int 0),("named",.fdict [])]]⟩:=by kernel_rfl
theorem set_named (b:Bool) (h0 h1 h2:HO) (T:List AV) (W a:AV) (q1 q2 q3 q4 q5 q6:Pos):(run (outL b) 30).S sc77 (.Assign [.Attribute (.Name "reader" q1) "named" q2] (.Dict [some (.Constant (.str "F-1") 0 q3)] [.Constant (.bool true) 0 q4] q5) q6)
  ⟨[("words",W),("read",a),("reader",.hnd 4)],[h0,h1,h2,.lst T,.inst 637 [("tokens",.hnd 3),("at",.int 0),("named",.fdict [])]]⟩=ok .next ⟨[("words",W),("read",a),("reader",.hnd 4)],[h0,h1,h2,.lst T,.inst 637 [("tokens",.hnd 3),("at",.int 0),("named",nmA)]]⟩:=by kernel_rfl
theorem dot_list (b:Bool) (sc:Scope) (l:List (Str × AV)) (h0:HO) (p7 p8:Pos):(run (outL b) 5).E sc (.List [.Constant (.str ".") 0 p7] p8) ⟨l,[h0]⟩=ok (.hnd 1) ⟨l,[h0,.lst [.str "."]]⟩:=by kernel_rfl
end
section
section
variable {prog:Program}{w:World}{K:Frag}{ti:List TabI}{fr:Led}{U:SubP}{c:Cx}{RX:Cx→Led→Int→Value→Shared→Prop}{s:Shared}{ad:List Ad}{fz:Led}
theorem sd_op3 (hRX:RXm RX) {l r:PySem.Expr}{op:Operator}{q:Pos}{a b v:AV}{σ₁ σ₂ σ₃:St}(h1:Sd (model prog w) U K w.params ti fr RX c ad fz (VR K w.params) (eval l c.env) (ok a σ₁) s)
  (h2:∀ s' ad' own tb fz' m,Pre ad ad'→fz⊆fz'→Inv U K w.params ti fr c σ₁ ad' own tb fz' m s'→Sd (model prog w) U K w.params ti fr RX c ad' fz' (VR K w.params) (eval r c.env) (ok b σ₂) s')
  (h3:∀ va vb s' ad' own tb fz' m,Pre ad ad'→fz⊆fz'→Inv U K w.params ti fr c σ₂ ad' own tb fz' m s'→VR K w.params ad' fz' a va→VR K w.params ad' fz' b vb→Sd (model prog w) U K w.params ti fr RX c ad' fz' (VR K w.params) (binaryOp op va vb) (ok v σ₃) s') :
  Sd (model prog w) U K w.params ti fr RX c ad fz (VR K w.params) (eval (.BinOp l op r q) c.env) (ok v σ₃) s:=by
 rw [eval_BinOp]
 refine Sd.seq hRX h1 λ va s₁ ad₁ own₁ tb₁ fz₁ m₁ hp₁ hf₁ I₁ ha=>?_
 refine Sd.seq hRX (Sd.hold (h2 _ _ _ _ _ _ hp₁ hf₁ I₁)) λ vb s₂ ad₂ own₂ tb₂ fz₂ m₂ hp hf I₂ hb=>Sd.stand (Sd.oper ?_)
 exact h3 _ _ _ _ _ _ _ _ (hp₁.trans hp) (λ _ h=>hf (hf₁ h)) I₂ (ha.mono hp hf) hb
end
section
variable {w:World}{ti:List TabI}{U:SubP}{fr:Led}{c:Cx}{σ σ' σ₁ σ₂:St}{ad:List Ad}{own tb fz:Led}{m:Str→Option Value}{s:Shared}{p:Program}{loose:List Str}{mg mb:Str→Option Value}{D:Nat}
theorem wt_strs (ws:List Str):wtA (ws.map .str)=ws.length:=by
 induction ws with
 | nil=>rfl
 | cons x l ih=>exact congrArg (· + 1) ih
theorem strs_any {K:Frag}{P:Params}{ad ad':List Ad}{fz:Led}{ws:List Str}:∀ {vs:List Value},VRs K P ad fz (ws.map .str) vs→VRs K P ad' fz (ws.map .str) vs:=by
 induction ws with
 | nil=>exact λ h=>h.qNil .nil
 | cons x l ih=>exact λ h=>h.qCons rfl λ a b=>.cons (a.qStr rfl λ t=>.str _ _) (ih b)
theorem zxz {K:Frag}{P:Params}{ws:List Str}(ad':List Ad) {fz:Led}{v:Value}(h:VR K P ad fz (.tup (ws.map .str)) v):VR K P ad' fz (.tup (ws.map .str)) v:=by
 exact h.qTup rfl λ h1 h2=>.tup h1 (strs_any h2)
inductive LocF (ad ad':List Ad):List (Str × AV)→List (Str × AV)→Prop
 | nil:LocF ad ad' [] []
 | cons {x a a' l l'}:HdF ad ad' a a'→LocF ad ad' l l'→LocF ad ad' ((x,a)::l) ((x,a')::l')
theorem LocF.look {ad ad':List Ad}{n:Str}{a':AV}{l l':List (Str × AV)}(h:LocF ad ad' l l'):zqn n l'=some a'→∃ a,zqn n l=some a∧HdF ad ad' a a':=by
 induction h with
 | nil=>exact λ e=>nn e
 | @cons x a b l l' h r ih=>
  intro e
  show ∃ a,cd (sB x n) (some _) (zqm n l)=some a∧_
  refine cd_q e (λ q e=>?_) λ q e=>?_
  ·rw [show sB x n=true from q];exact ⟨_,rfl,Option.some.inj e▸h⟩
  ·rw [show sB x n=false from q];exact ih e
theorem HdF.any {ad ad':List Ad}{a:AV}(h:∀ K P ad fz v,VR K P ad fz a v→VR K P [] fz a v):HdF ad ad' a a:=λ K P fz v x=>(h _ _ _ _ _ x).mono ⟨ad',rfl⟩ λ _ h=>h
theorem HdF.hnd {ad ad':List Ad}{i j:Nat}{x y:Ad}(h1:ad[i]? = some x) (h2:ad'[j]? = some y) (h:y.a=x.a):HdF ad ad' (.hnd i) (.hnd j):=λ K P fz v q=>by
 replace q:=q.inv;cases q with | hnd e=>
 rw [h1] at e;cases e
 exact h▸.hnd h2
noncomputable abbrev zzd (ws:List Str) (a2:AV):List (Str × AV):=[("words",.tup (ws.map .str)),("read",a2)]
noncomputable abbrev zq1 (ws:List Str) (a2:AV) (j:Nat):List (Str × AV):=[("words",.tup (ws.map .str)),("read",a2),("reader",.hnd j)]
noncomputable abbrev dotW:List Str:=["."]
theorem st708_ok {b:Bool}(HB:Base pw_pc0148_01 w (KF w.params) ti U (outL b) p loose mg mb (D + 70)) {ws:List Str}{a2:AV}(Y:Ok p loose mg mb (KF w.params) c (40 + (D + 70) + 1)) (hsc:c.sc=sc77) (hv:∀ x∈ws,x∈voc) (hlen:ws.length≤2000)
  (h2:∀ K P ad fz v,VR K P ad fz a2 v→VR K P [] fz a2 v) (I:Inv U (KF w.params) w.params ti fr c ⟨zzd ws a2,[]⟩ [] [] tb fz m s) {Q:Flow→Shared→Prop}{E:Value→Shared→Prop}{rest:List Stmt}
  (k:∀ s' x own tb fz' m',fz⊆fz'→x.z 0=0→x.n=ws.length + 1→Inv U (KF w.params) w.params ti fr c ⟨zq1 ws a2 0,[.rdr 0 0 ((zqa 0 (ws++dotW)).map .tk) nmA]⟩ [x] own tb fz' m' s'→wpAny (model pw_pc0148_01 w) c.A (execs rest c.env) Q E s') :
  wpAny (model pw_pc0148_01 w) c.A (execs (st708++rest) c.env) Q E s:=by
 have hX:RXm (RX1 ti):=λ c=>rx_m _ _ c
 have FA:=HB.FA
 have FC:=HB.FC
 obtain ⟨k1,k2,k3,k4,k5,k6,k7,k8,k9,k10,k11⟩:=zja
 rw [← hsc] at k1 k2 k3 k4 k5 k6 k7
 have e:=shape708
 rw [e]
 let T:List AV:=(zqa 0 (ws++dotW)).map .tok
 have hlist:∀ {s:Shared}{ad:List Ad}{own tb fz:Led}{m:Str→Option Value},Inv U (KF w.params) w.params ti fr c ⟨zzd ws a2,[]⟩ ad own tb fz m s →
   Sd (model pw_pc0148_01 w) U (KF w.params) w.params ti fr (RX1 ti) c ad fz (VR (KF w.params) w.params) (eval (.BinOp (.Call (.Name "list" ⟨524,32,524,36⟩) [.Name "words" ⟨524,37,524,42⟩] [] ⟨524,32,524,43⟩) .Add (.List [.Constant (.str ".") 0 ⟨524,47,524,50⟩] ⟨524,46,524,51⟩) ⟨524,32,524,51⟩) c.env)
    (ok (.hnd 2) ⟨zzd ws a2,[.lst (ws.map .str),.lst [.str "."],.lst ((ws++dotW).map .str)]⟩) s:=λ I=>by
  rw [List.map_append]
  exact sd_op3 hX (sd_listT (list_is _) Y I k5 k2 (by decide) rfl (by rw [wt_strs];omega))
   (λ s' ad' own tb fz' m hp hf I'=>by
    have:=(zq8 HB 5 c (Y.le (by omega))).E fr (.List [.Constant (.str ".") 0 ⟨524,47,524,50⟩] ⟨524,46,524,51⟩) _ _ _ _ _ _ _ I'
    rw [hsc] at this
    exact (dot_list b sc77 (zzd ws a2) (.lst (ws.map .str)) ⟨524,47,524,50⟩ ⟨524,46,524,51⟩)▸this)
   λ va vb s' ad' own tb fz' m hp hf I' h1 h2=>by
    have:=sd_addL (prog:=pw_pc0148_01) (RX:=RX1 ti) (i:=0) (j:=1) (l:=ws.map .str) (r:=[.str "."]) I' rfl rfl h1 h2 (by rw [wt_strs];show _ + 1≤_;omega)
    exact this
 have htok:∀ {s:Shared}{ad:List Ad}{own tb fz:Led}{m:Str→Option Value},Inv U (KF w.params) w.params ti fr c ⟨zzd ws a2,[]⟩ ad own tb fz m s →
   Sd (model pw_pc0148_01 w) U (KF w.params) w.params ti fr (RX1 ti) c ad fz (VR (KF w.params) w.params) (eval (.Call (.Name "_law_tokens" ⟨524,20,524,31⟩) [.BinOp (.Call (.Name "list" ⟨524,32,524,36⟩) [.Name "words" ⟨524,37,524,42⟩] [] ⟨524,32,524,43⟩) .Add (.List [.Constant (.str ".") 0 ⟨524,47,524,50⟩] ⟨524,46,524,51⟩) ⟨524,32,524,51⟩] [] ⟨524,20,524,52⟩) c.env)
    (ok (.hnd 3) ⟨zzd ws a2,[.lst (ws.map .str),.lst [.str "."],.dead,.lst T]⟩) s:=λ I=>
  zxh hX FA FC Y I k7 (by decide) (zkp b) (by kernel_rfl) rfl (λ s' ad' own tb fz' m hp hf I'=>zxm hX rfl (hlist I') λ s' ad' own tb fz' m hp hf I'=>zx0 I')
   λ vf vs ad' own tb fz' m s' hp hf I' h1 h2=>by
    replace h1:=h1.inv;cases h1
    replace h2:=h2.inv;cases h2 with | cons g1 g2=>
    replace g2:=g2.inv;cases g2
    exact (sd_694h HB (i:=2) (ws:=ws++dotW) Y (λ x hx=>(List.mem_append.mp hx).elim (hv x) λ z=>by rw [List.mem_singleton.mp z];decide) (by simp;omega) I' rfl g1).call
 have hrd:∀ {s:Shared}{ad:List Ad}{own tb fz:Led}{m:Str→Option Value},Inv U (KF w.params) w.params ti fr c ⟨zzd ws a2,[]⟩ ad own tb fz m s →
   Sd (model pw_pc0148_01 w) U (KF w.params) w.params ti fr (RX1 ti) c ad fz (VR (KF w.params) w.params) (eval (.Call (.Name "Reader" ⟨524,13,524,19⟩) [.Call (.Name "_law_tokens" ⟨524,20,524,31⟩) [.BinOp (.Call (.Name "list" ⟨524,32,524,36⟩) [.Name "words" ⟨524,37,524,42⟩] [] ⟨524,32,524,43⟩) .Add (.List [.Constant (.str ".") 0 ⟨524,47,524,50⟩] ⟨524,46,524,51⟩) ⟨524,32,524,51⟩] [] ⟨524,20,524,52⟩] [] ⟨524,13,524,53⟩) c.env)
    (ok (.hnd 4) ⟨zzd ws a2,[.lst (ws.map .str),.lst [.str "."],.dead,.lst T,.inst 637 [("tokens",.hnd 3),("at",.int 0),("named",.fdict [])]]⟩) s:=λ I=>
  zxh hX FA FC Y I k6 (by decide) (zkq b) (by kernel_rfl) rfl (λ s' ad' own tb fz' m hp hf I'=>zxm hX rfl (htok I') λ s' ad' own tb fz' m hp hf I'=>zx0 I')
   λ vf vs ad' own tb fz' m s' hp hf I' h1 h2=>by
    replace h1:=h1.inv;cases h1
    have:=((zq8 HB 30 c (Y.le (by omega))).C fr (.gref 637) 637 [.hnd 3] _ _ _ _ _ _ _ _ I' (.gref 637) h2 rfl).call
    rw [mk_reader] at this
    exact this
 have hst1:=zjy (q:=⟨524,4,524,10⟩) (pos:=⟨524,4,524,53⟩) hX k1 k4 rfl (hrd I)
 rw [List.cons_append,execs_cons]
 refine wpAny_bind (wpAny_mono hst1 (λ f s₁ h=>?_) λ _ _ h=>h.elim)
 obtain ⟨ad₁,own₁,tb₁,fz₁,m₁,hp₁,hf₁,I₁,fl₁⟩:=h
 replace fl₁:=fl₁.inv;cases fl₁
 dsimp only
 have hst2:=(zq8 HB 30 c (Y.le (by omega))).S fr (.Assign [.Attribute (.Name "reader" ⟨525,4,525,10⟩) "named" ⟨525,4,525,16⟩] (.Dict [some (.Constant (.str "F-1") 0 ⟨525,20,525,25⟩)] [.Constant (.bool true) 0 ⟨525,27,525,31⟩] ⟨525,19,525,32⟩) ⟨525,4,525,32⟩) _ _ _ _ _ _ _ I₁
 rw [hsc] at hst2
 have hs2:=set_named b (.lst (ws.map .str)) (.lst [.str "."]) .dead T (.tup (ws.map .str)) a2 ⟨525,4,525,10⟩ ⟨525,4,525,16⟩ ⟨525,20,525,25⟩ ⟨525,27,525,31⟩ ⟨525,19,525,32⟩ ⟨525,4,525,32⟩
 rw [show zza "reader" (.hnd 4) (zzd ws a2)=zq1 ws a2 4 from rfl] at hst2
 rw [hs2] at hst2
 rw [List.cons_append,execs_cons]
 refine wpAny_bind (wpAny_mono hst2 (λ f s₂ h=>?_) λ _ _ h=>h.elim)
 obtain ⟨ad₂,own₂,tb₂,fz₂,m₂,hp₂,hf₂,I₂,fl₂⟩:=h
 replace fl₂:=fl₂.inv;cases fl₂
 dsimp only
 have hl3:(zqa 0 (ws++dotW)).length=ws.length + 1:=by simp [zzl]
 have hl:∀ ad₁ ad₂' x y z,ad₂=ad₁++(ad₂'++[x,y])→ad₁.length=([]:List HO).length→ad₂'.length=[HO.lst (ws.map .str),.lst [.str "."],.dead].length→z.a=y.a→∀ n a',zqn n (zq1 ws a2 0)=some a'→∃ a,zqn n (zq1 ws a2 4)=some a∧HdF ad₂ (ad₁++[z]) a a':=by
  intro ad₁ ad₂' x y z e h1 h2' hz n a' q
  have h0:ad₁=[]:=List.eq_nil_of_length_eq_zero h1
  subst h0
  refine LocF.look (l:=zq1 ws a2 4) (l':=zq1 ws a2 0) (.cons (λ K P fz v h=>zxz _ h) (.cons (HdF.any h2) (.cons (HdF.hnd (x:=y) (y:=z) ?_ rfl hz) .nil))) q
  rw [e,List.nil_append,List.getElem?_append_right (by rw [h2'];exact Nat.le_succ 3),h2']
  rfl
 obtain ⟨ad₁',z,own',fz',hs,_,hlz,hz0,hzn,_,I'⟩:=to_rdr (A:=[]) (B:=[.lst (ws.map .str),.lst [.str "."],.dead]) (toks:=zqa 0 (ws++dotW)) (l:=["F-1"]) (loc':=zq1 ws a2 0) I₂ rfl still_nil (by rw [hl3];omega) hl
 have:ad₁'=[]:=List.eq_nil_of_length_eq_zero hlz
 subst this
 exact k s₂ z own' tb₂ fz' m₂ (λ _ h=>hs (hf₂ (hf₁ h))) hz0 (by rw [hzn,hl3]) I'
end
end
section
section
variable {w:World}{ti:List TabI}{U:SubP}{fr:Led}{c:Cx}{σ σ' σ₁ σ₂:St}{ad:List Ad}{own tb fz:Led}{m:Str→Option Value}{s:Shared}{p:Program}{loose:List Str}{mg mb:Str→Option Value}
theorem baseN (D:Nat) (ti:List TabI):Base pw_pc0148_01 w (KF w.params) ti noU (outL false) p loose mg mb (D + 70) where
 hM:=mulT _ _
 FA:=(base0 (w:=w) (p:=p) (loose:=loose) (mg:=mg) (mb:=mb) D).FA
 FC:=(base0 (w:=w) (p:=p) (loose:=loose) (mg:=mg) (mb:=mb) D).FC
 hr:=rangeF _
 hti:=λ h=>nomatch h
 hP:=λ fr=>prims (U:=noU) (λ _ _ _ _ _ _ (h:False)=>h.elim) fr
 hB:=λ _ _ _ _ (h:False)=>h.elim
 hR:=raise_ok (factsX _)
noncomputable def zj8 (w:World) (p:Program) (loose:List Str) (mg mb:Str→Option Value) (ti:List TabI) (D:Nat) (fa:AV) (toks post:List Tk) (o:AV ⊕ Int):Prop:=
 ∀ (c:Cx) (fr:Led) (x:Ad) (own tb fz:Led) (m:Str→Option Value) (s:Shared) (a:Addr),Ok p loose mg mb (KF w.params) c D→Inv noU (KF w.params) w.params ti fr c ⟨[],[.rdr 0 0 ((toks++post).map .tk) nmA]⟩ [x] own tb fz m s→VR (KF w.params) w.params [x] fz fa (.ref a) →
  match o with
  | .inl v=>codeAny (model pw_pc0148_01 w) c.A (.call (.ref a) ⟨[.ref x.a,.ref 701],[]⟩) (λ r s'=>match r with
    | .ok (.ret u)=>∃ own' tb' fz',fz⊆fz'∧∃ k',Inv noU (KF w.params) w.params ti fr c ⟨[],[.rdr 0 k' (post.map .tk) nmA]⟩ [x] own' tb' fz' m s'∧VR (KF w.params) w.params [] fz' v u
    | _=>False) s
  | .inr ix=>codeAny (model pw_pc0148_01 w) c.A (.call (.ref a) ⟨[.ref x.a,.ref 701],[]⟩) (λ r s'=>match r with | .error e=>RX1 ti c (fr++fz) ix e s'∧s'.heap.Ns c.L m | _=>False) s
theorem rk_ar {t p T S X Z n:Nat}(h0:t + p=S - (X + 0)) (h1:p=T - Z) (d5:S=n) (b5:T=n) (d7:X + 0≤S) (b7:Z≤T):X + (Z - X)=Z:=by
 subst d5;subst b5
 have q:T - Z≤T - X:=by rw [← h1];exact Nat.le_trans (Nat.le_add_left p t) (Nat.le_of_eq h0)
 exact Nat.add_sub_of_le (Nat.le_of_not_lt λ h=>Nat.not_lt.mpr q (Nat.sub_lt_sub_left (Nat.lt_of_lt_of_le h d7) h))
theorem rk_ok {b:Bool}{D K:Nat}(HB:Base pw_pc0148_01 w (KF w.params) ti U (outL b) p loose mg mb (D + 70)) {fa:AV}{toks post:List Tk}{rest rest':List Item}{v:AV}{loc:List (Str × AV)}{e k:Nat}{junk:List HO}(hf:flat rest=toks++post)
  (hU:∀ pre f hd tl o post,rest=pre++Item.sub f hd tl o::post→U.blk f (hd::tl) o (flat post)) (hfa:∀ K P ad fz v,VR K P ad fz fa v→VR K P [] fz fa v)
  (hrun:(run (outL b) K).C fa [.hnd 0,.gref 701] ⟨[],[.rdr 0 0 rest nmA]⟩=some (.ok v ⟨loc,.rdr e k rest' nmA::junk⟩)) (hpost:flat rest'=post) (hv:Pure v) :
  zj8 w p loose mg mb ti (D + 70 + K) fa toks post (.inl v):=by
 intro c fr x own tb fz m s a Y I hvf
 obtain ⟨z,hz,I₁⟩:=zkc (U:=U) I hf hU
 have Y':Ok p loose mg mb (KF w.params) c (K + (D + 70)):=Y.le (by omega)
 have hvs':VRs (KF w.params) w.params [{ x with z:=z }] fz [.hnd 0,.gref 701] [.ref x.a,.ref 701]:=.cons (.hnd (x:={ x with z:=z }) rfl) (.cons (.gref _) .nil)
 have main:=(zq8 HB K c Y').C fr fa a _ _ _ _ _ _ _ m s I₁ ((hfa _ _ _ _ _ hvf).mono ⟨_,rfl⟩ λ _ h=>h) hvs' rfl
 rw [hrun] at main
 refine codeAny_mono main λ r s' h=>?_
 cases r with
 | error e=>exact h.elim
 | ok fl=>
  cases fl with
  | ret u=>
   obtain ⟨ad',own',tb',fz',hp,hfz,I₂,hu⟩:=h
   obtain ⟨ads,rfl⟩:=hp
   have ow:=I₂.ow
   replace ow:=ow.inv;cases ow with | cons o1 o2=>
   rename_i e₁ es
   have N₂:=I₂.N
   have nd₂:=I₂.nd
   have pm:((e₁++es)++(tb'++(fr++fz'))).Perm (e₁++(tb'++(fr++(es++fz')))):=by
    have q:∀ a b:Led,(a++(es++b)).Perm (es++(a++b)):=λ a b=>by
     rw [← List.append_assoc,← List.append_assoc]
     exact List.Perm.append_right _ List.perm_append_comm
    rw [List.append_assoc]
    exact List.Perm.append_left _ ((((q fr fz').append_left tb').trans (q tb' _)).symm)
   have hs:fz'⊆es++fz':=List.subset_append_right ..
   refine ⟨e₁,tb',es++fz',λ _ h=>hs (hfz h),?_⟩
   replace o1:=o1.inv;cases o1 with | rdr b1 b2 b3 b4 b5 b6 b7 b8 b9 b10=>
   rename_i n2 tvs n tks vn t1 t2 t3 t4
   have b7:z e + k≤tks.length:=b7
   have b4:flat rest'=tks.drop (z e + k):=b4
   have ow0:=I.ow
   replace ow0:=ow0.inv;cases ow0 with | cons c1 c2=>
   replace c2:=c2.inv;cases c2
   replace c1:=c1.inv;cases c1 with | rdr d1 d2 d3 d4 d5 d6 d7 d8 d9 d10=>
   rename_i tvs0 n0 tks0 vn0 s1 s2 s3 s4
   have hl0:=congrArg List.length d4
   rw [zqd,List.length_drop,List.length_append] at hl0
   have hl1:=congrArg List.length b4
   rw [hpost,List.length_drop] at hl1
   have d5:tks0.length=x.n:=d5
   have b5:tks.length=x.n:=b5
   have d7:x.z 0 + 0≤tks0.length:=d7
   have hk:x.z 0 + (z e + k - x.z 0)=z e + k:=rk_ar hl0 hl1 d5 b5 d7 b7
   refine ⟨z e + k - x.z 0,⟨I₂.F,λ q hq=>N₂ q (pm.mem_iff.mpr (by simpa using hq)),(pm.map _).nodup_iff.mp nd₂ |> λ h=>by simpa using h,?_,I₂.tb.mono hs,(λ y a q=>nomatch q),I₂.og⟩,(hv.2 _ _ _ _ _ hu).mono .refl hs⟩
   have goal:OW noU (KF w.params) w.params [x] (es++fz') x (.rdr 0 (z e + k - x.z 0) (post.map .tk) nmA) [(x.d,dictOf [⟨PyData.keyHash w.params "tokens",.str "tokens" t1,.ref x.t⟩,⟨PyData.keyHash w.params "at",.str "at" t2,.int ((x.z 0 + (z e + k - x.z 0):Nat):Int) t3⟩,⟨PyData.keyHash w.params "named",.str "named" t4,vn⟩] n2)]:=
    .rdr (x:=x) (e:=0) (k:=z e + k - x.z 0) (hs b1) (hs b2) (b3.toks.mono .refl hs) (by rw [zqd,hk,← b4,hpost]) b5 b6 (by rw [hk];exact b7) zOK_tk (λ pre' f' hd' tl'' o' post'' q=>by
     have:Item.sub f' hd' tl'' o'∈(post.map Item.tk):=by rw [q];simp
     obtain ⟨z,_,hz⟩:=List.mem_map.mp this
     cases hz) (b10.nmad.mono .refl hs)
   rw [hk] at goal
   exact OWs.cons goal .nil
  | _=>exact h.elim
theorem rk_exc {b:Bool}{D K:Nat}(HB:Base pw_pc0148_01 w (KF w.params) ti U (outL b) p loose mg mb (D + 70)) {fa:AV}{toks post:List Tk}{rest:List Item}{ix:Int}(hf:flat rest=toks++post)
  (hU:∀ pre f hd tl o post,rest=pre++Item.sub f hd tl o::post→U.blk f (hd::tl) o (flat post)) (hfa:∀ K P ad fz v,VR K P ad fz fa v→VR K P [] fz fa v)
  (hrun:(run (outL b) K).C fa [.hnd 0,.gref 701] ⟨[],[.rdr 0 0 rest nmA]⟩=some (.exc ix)) :
  zj8 w p loose mg mb ti (D + 70 + K) fa toks post (.inr ix):=by
 intro c fr x own tb fz m s a Y I hvf
 obtain ⟨z,hz,I₁⟩:=zkc (U:=U) I hf hU
 have Y':Ok p loose mg mb (KF w.params) c (K + (D + 70)):=Y.le (by omega)
 have hvs':VRs (KF w.params) w.params [{ x with z:=z }] fz [.hnd 0,.gref 701] [.ref x.a,.ref 701]:=.cons (.hnd (x:={ x with z:=z }) rfl) (.cons (.gref _) .nil)
 have main:=(zq8 HB K c Y').C fr fa a _ _ _ _ _ _ _ m s I₁ ((hfa _ _ _ _ _ hvf).mono ⟨_,rfl⟩ λ _ h=>h) hvs' rfl
 rw [hrun] at main
 exact main
theorem run722_ok (hd:Tk) (tl:List Tk) (v:AV) (d:Tk):(run out 20).C (.gref 722) [.hnd 0,.gref 701] ⟨[],[.rdr 0 0 [.sub 405 hd tl (.inl v),.tk d] nmA]⟩=some (.ok v ⟨[],[.rdr 1 0 [.tk d] nmA]⟩):=by kernel_rfl
theorem run722_exc (hd:Tk) (tl:List Tk) (i:Int) (d:Tk):(run out 20).C (.gref 722) [.hnd 0,.gref 701] ⟨[],[.rdr 0 0 [.sub 405 hd tl (.inr i),.tk d] nmA]⟩=some (.exc i):=by kernel_rfl
theorem zjc (a:Nat):∀ K P ad fz v,VR K P ad fz (.gref a) v→VR K P [] fz (.gref a) v:=λ K P ad fz v h=>by replace h:=h.inv;cases h;exact .gref a
theorem read722 {k:Nat}{hd:Tk}{tl:List Tk}{d:Tk}{o:AV ⊕ Int}(h:BlkK w p loose mg mb (NN k) 405 (hd::tl) o [d]) (hp:∀ v,o=.inl v→Pure v):zj8 w p loose mg mb tis (NN k + 20) (.gref 722) (hd::tl) [d] o:=by
 have e:NN k=(NN k - 70) + 70:=by unfold NN;omega
 have HB:=baseK (w:=w) (p:=p) (loose:=loose) (mg:=mg) (mb:=mb) (NN k - 70)
 rw [← e] at HB
 have hU:∀ o,BlkK w p loose mg mb (NN k) 405 (hd::tl) o [d]→∀ pre f hd' tl' o' post,[Item.sub 405 hd tl o,.tk d]=pre++Item.sub f hd' tl' o'::post→BlkK w p loose mg mb (NN k) f (hd'::tl') o' (flat post):=by
  intro o h pre f hd' tl' o' post q
  cases pre with
  | nil=>cases q;exact h
  | cons y r=>
   have q2:=(List.cons.inj q).2
   cases r with
   | nil=>cases q2
   | cons y r=>
    have q3:=(List.cons.inj q2).2
    cases r<;>cases q3
 cases o with
 | inl v=>
  rw [e]
  exact rk_ok (D:=NN k - 70) (U:=lvl w p loose mg mb (NN k - 70 + 70)) (b:=true) (by rw [← e];exact HB) rfl (by rw [← e];exact hU _ h) (zjc _) (run722_ok hd tl v d) rfl (hp v rfl)
 | inr i=>
  rw [e]
  exact rk_exc (D:=NN k - 70) (U:=lvl w p loose mg mb (NN k - 70 + 70)) (b:=true) (by rw [← e];exact HB) rfl (by rw [← e];exact hU _ h) (zjc _) (run722_exc hd tl i d)
end
end
section
section
variable {prog:Program}{w:World}{K:Frag}{ti:List TabI}{fr:Led}{U:SubP}{c:Cx}{RX:Cx→Led→Int→Value→Shared→Prop}{O:Out}
 {σ σ' σ₁ σ₂:St}{ad:List Ad}{own tb fz:Led}{m:Str→Option Value}{s:Shared}{p:Program}{loose:List Str}{mg mb:Str→Option Value}
theorem sd_ecmp (hRX:RXm RX) {l r:PySem.Expr}{op:CmpOp}{pos:Pos}{a b:AV}{t:Bool}(hn:zkz r=true) (h1:Sd (model prog w) U K w.params ti fr RX c ad fz (VR K w.params) (eval l c.env) (ok a σ₁) s)
  (h2:∀ s' ad' own tb fz' m,Pre ad ad'→fz⊆fz'→Inv U K w.params ti fr c σ₁ ad' own tb fz' m s'→Sd (model prog w) U K w.params ti fr RX c ad' fz' (VR K w.params) (eval r c.env) (ok b σ₂) s')
  (h3:∀ va vb s' ad' own tb fz' m,Pre ad ad'→fz⊆fz'→Inv U K w.params ti fr c σ₂ ad' own tb fz' m s'→VR K w.params ad' fz' a va→VR K w.params ad' fz' b vb→Sd (model prog w) U K w.params ti fr RX c ad' fz' BoolV (compareOp op va vb) (ok t σ') s') :
  Sd (model prog w) U K w.params ti fr RX c ad fz (VR K w.params) (eval (.Compare l [op] [r] pos) c.env) (ok (.bool t) σ') s:=by
 rw [eval_Compare1,markedBehindIn_of_false (zxp hn)]
 refine Sd.seq hRX h1 λ va s₁ ad₁ own₁ tb₁ fz₁ m₁ hp₁ hf₁ I₁ ha=>?_
 refine Sd.seq hRX (Sd.hold (h2 _ _ _ _ _ _ hp₁ hf₁ I₁)) λ vb s₂ ad₂ own₂ tb₂ fz₂ m₂ hp hf I₂ hb=>Sd.stand ?_
 refine Sd.oper ?_
 have h:=h3 _ _ _ _ _ _ _ _ (hp₁.trans hp) (λ _ h=>hf (hf₁ h)) I₂ (ha.mono hp hf) hb
 refine wpAny_mono h (λ v s' ⟨ad',own,tb,fz',m,a1,a2,a3,a4⟩=>⟨ad',own,tb,fz',m,a1,a2,a3,?_⟩) λ _ _ h=>h
 cases a4
 exact .bool _
theorem sd_lenT (hRX:RXm RX) {k:Nat}{x:Str}{l:List AV}{p1 p2 p3:Pos}(FA:zqr K w.params O) (FC:zxf K w.params O) (hlen:O.glob "len" = some (.blt "len")) (Y:Ok p loose mg mb K c k) (I:Inv U K w.params ti fr c σ ad own tb fz m s)
  (hk:zqt c.sc x=true) (hd:sB x "__debug__" = false) (hg:zxk c.sc "len" = true) (hl:zqn x σ.loc=some (.tup l)) (hp:zqc l=true) (hb:l.length < 2 ^ 20) :
  Sd (model prog w) U K w.params ti fr RX c ad fz (VR K w.params) (eval (.Call (.Name "len" p1) [.Name x p2] [] p3) c.env) (ok (.int (Int.ofNat l.length)) σ) s:=by
 refine zxh (fa:=.blt "len") (as:=[.tup l]) hRX FA FC Y I hg (by decide) hlen rfl rfl (λ s₁ ad₁ own₁ tb₁ fz₁ m₁ _ _ I₁=>zxm hRX rfl (zzv FA Y I₁ hk hd hl) λ s₂ ad₂ own₂ tb₂ fz₂ m₂ _ _ I₂=>zx0 I₂) ?_
 intro vf vs ad₁ own₁ tb₁ fz₁ m₁ s₁ hp' hf I₁ hvf hvs
 replace hvf:=hvf.inv;cases hvf
 replace hvs:=hvs.inv;cases hvs with | cons g1 g2=>
 replace g2:=g2.inv;cases g2
 replace g1:=g1.inv;cases g1 with | tup h1 h2=>
 have hv:=h2.plain hp
 rename_i vs _ _ _ _
 have e:((vs.toArray.size:Nat):Int)=Int.ofNat l.length:=by simp [hv]
 exact PyProof.Rows.len_tuple (items:=vs.toArray) (zql I₁ Y.X h1) (by simp;omega) (.mk (I₁.tok _) (by rw [e];exact .int _ _))
theorem zzp {M:Model}{A:Around}{env:Env}{f:Value}{first:List Value}{pos:Pos}{e:PySem.Expr}{r:List PySem.Expr}{Q:Value→Shared→Prop}{E:Value→Shared→Prop}{s:Shared}(hs:(e::r).all noStar=true)
  (hA:wpAny M A (spliced (backTo pos (starEach (e::r) env))) (λ vs s₁=>(∃ k,(k=Keeper.frame∨k=Keeper.machine∨k=Keeper.boundFrame)∧Looks M s₁.heap (keeperOf f) k)∧wpAny M A (call f (first++vs) []) Q E s₁) E s) :
  wpAny M A (callWith pos f first (backTo pos (starEach (e::r) env)) []) Q E s:=by
 unfold callWith
 have q':noStar e=true:=(Bool.and_eq_true_iff.mp hs).1
 refine wpAny_bind (wpAny_holding ?_)
 have hA':wpAny M A (evalArgs f true (backTo pos (starEach (e::r) env)) []) (λ a s₁=>a.kw=[]∧(∃ k,(k=Keeper.frame∨k=Keeper.machine∨k=Keeper.boundFrame)∧Looks M s₁.heap (keeperOf f) k)∧wpAny M A (call f (first++a.pos) []) Q E s₁) E s:=by
  rw [zqe q'] at hA ⊢
  show wpAny M A (evalArgs f true ((false,eval e env)::backTo pos (starEach r env)) []) _ E s
  refine evalArgs_plain ?_
  exact wpAny_mono hA (λ vs s₁ h=>⟨rfl,h⟩) λ _ _ h=>h
 refine wpAny_mono hA' (λ a s₁ ⟨kw,⟨k,hk,L⟩,h₁⟩=>?_) λ _ _ h=>h
 refine wpAny_bind (wpAny_standAt ?_)
 simp only [(zzo (pos:=pos) (env:=env) hs).1,List.any_nil,Bool.or_false,kw]
 refine wpAny_bind (L.here ?_)
 have tail:∀ {t:Sem Value},wpAny M A t Q E s₁→wpAny M A (t >>= λ r=>holding [r] point >>= λ _=>pure r) Q E s₁:=
  λ ht=>wpAny_bind (wpAny_mono ht (λ r s₂ hr=>wpAny_bind (wpAny_holding (wpAny_point (wpAny_pure hr)))) λ _ _ x=>x)
 have marked (mk:Value):wpAny M A (callMarked mk f (first++a.pos) []) Q E s₁:=by unfold callMarked;exact Calls.wpAny_keep h₁
 rcases hk with rfl | rfl | rfl<;>dsimp only<;>first | exact tail h₁ | (split<;>first | exact tail h₁ | exact tail (marked _))
end
theorem body_is (P:Params):nsIn (KF P) mainGlobals "_law_body" = some (some (.ref 701)):=by kernel_rfl
theorem fault_is (P:Params):nsIn (KF P) mainGlobals "GrammarFault" = some (some (.ref 122)):=by kernel_rfl
theorem try708:(⟨529,15,529,25⟩:Pos).endLine=(⟨529,15,529,27⟩:Pos).line∧(topD 77).2.2.1.drop 2=(by refine' (?f:∀ b,(topD 77).2.2.1.drop 2=b→List Stmt) _ ?h;exact λ b _=>b;case h=>conv=>lhs;whnf):=⟨rfl,rfl⟩
end
section
section
variable {w:World}{ti:List TabI}{fr:Led}{c:Cx}{σ σ' σ₁ σ₂:St}{ad:List Ad}{own tb fz:Led}{m:Str→Option Value}{s:Shared}{p:Program}{loose:List Str}{mg mb:Str→Option Value}{D:Nat}
theorem at_run {b:Bool}{a2:AV}{W:AV}{k:Nat}{d:Tk}{p5 p6:Pos}:(run (outL b) 5).E sc77 (.Attribute (.Name "reader" p5) "at" p6) ⟨[("words",W),("read",a2),("reader",.hnd 0)],[.rdr 0 k [.tk d] nmA]⟩=ok (.off 0 0 k) ⟨[("words",W),("read",a2),("reader",.hnd 0)],[.rdr 0 k [.tk d] nmA]⟩:=by kernel_rfl
structure Fun1 (a2:AV):Prop where
 pure:∀ K P ad fz v,VR K P ad fz a2 v→VR K P [] fz a2 v
 ref:∀ K P ad fz v,VR K P ad fz a2 v→∃ a,v=.ref a
 can:canA (outL false) a2=true
theorem fun722:Fun1 (.gref 722):=⟨zjc _,λ K P ad fz v h=>by replace h:=h.inv;cases h;exact ⟨_,rfl⟩,by kernel_rfl⟩
theorem tuple_read {a2:AV}{ws:List Str}{items:List Item}{x:Ad}{a:Addr}(hF:Fun1 a2) (Y:Ok p loose mg mb (KF w.params) c D) (hsc:c.sc=sc77) (I:Inv noU (KF w.params) w.params ti fr c ⟨zq1 ws a2 0,[.rdr 0 0 items nmA]⟩ [x] own tb fz m s)
  (hm:m "read" = some (.ref a)) {p1 p2 p3 p4 p11 p12:Pos}{k:Nat}{cmp:PySem.Expr}(hcs:noStar cmp=true) {Q:Flow→Shared→Prop}{E:Value→Shared→Prop}
  (h:wpAny (model pw_pc0148_01 w) c.A (call (.ref a) [.ref x.a,.ref 701] []) (λ u s₁=>wpAny (model pw_pc0148_01 w) c.A (eval cmp c.env) (λ u2 s₂=>wpAny (model pw_pc0148_01 w) c.A (newTuple [u,u2]) (λ t s₃=>Q (.ret t) s₃) E s₂) E s₁) E s) :
  wpAny (model pw_pc0148_01 w) c.A (execs [.Return (some (.Tuple [.Call (.Name "read" p1) [.Name "reader" p2,.Name "_law_body" p3] [] p4,cmp] k p11)) p12] c.env) Q E s:=by
 obtain ⟨k1,k2,k3,k4,k5,k6,k7,k8,k9,k10,k11⟩:=zja
 rw [← hsc] at k1 k2 k3 k4 k5 k6 k7 k8
 have FC:=(baseN (w:=w) (p:=p) (loose:=loose) (mg:=mg) (mb:=mb) 0 ti).FC
 obtain ⟨vr,hr,hr2⟩:=(I.lo "reader" (.hnd 0) rfl).1 (zqf k4)
 obtain ⟨va,hva,hva2⟩:=(I.lo "read" a2 rfl).1 (zqf k3)
 rw [hm] at hva
 cases hva
 have hvr:vr=.ref x.a:=by
  replace hr2:=hr2.inv;cases hr2 with | hnd q=>cases q;rfl
 subst hvr
 have hret:∀ (t:Value) (s₃:Shared),Q (.ret t) s₃→wpAny (model pw_pc0148_01 w) c.A (pure (Flow.ret t)) Q E s₃:=λ t s₃ h=>wpAny_pure h
 rw [execs_cons]
 refine wpAny_bind ?_
 rw [exec_Return_some]
 refine wpAny_bind (wpAny_standAt (wpAny_bind ?_))
 show wpAny _ _ (do standAt p11;newTuple (← spliced (backTo p11 (starEach _ _)))) _ _ _
 refine wpAny_bind (wpAny_standAt (wpAny_bind ?_))
 rw [zqe (e:=.Call _ _ _ _) rfl,zqe hcs]
 refine spliced_cons ?_
 rw [arm_eval_Call_Name']
 refine wpAny_bind (nameX_L I.F hm ?_ k1 (zqf k3) (by decide))
 refine zzp rfl ?_
 rw [zqe (e:=.Name _ _) rfl,zqe (e:=.Name _ _) rfl]
 refine spliced_cons (nameX_L I.F hr ?_ k1 (zqf k4) (by decide))
 refine spliced_cons (nameX_K I.F Y.X Y.T (body_is _) ?_ k1 (zxj k8) (by decide))
 refine spliced_nil ⟨zxn FC Y.X hF.can I hva2,?_⟩
 refine wpAny_mono h (λ u s₁ h₁=>?_) λ _ _ h=>h
 refine spliced_cons ?_
 refine wpAny_mono h₁ (λ u2 s₂ h₂=>spliced_nil ?_) λ _ _ h=>h
 refine wpAny_mono h₂ (λ t s₃ h₃=>wpAny_pure (wpAny_pure h₃)) λ _ _ h=>h
theorem rdr_place {x:Ad}{k':Nat}{d:Tk}{nm:AV}{loc:List (Str × AV)}{n:Nat}(I:Inv noU (KF w.params) w.params ti fr c ⟨loc,[.rdr 0 k' [.tk d] nm]⟩ [x] own tb fz m s) (hz:x.z 0=0) (hn:x.n=n + 1):k'=n:=by
 have ow:=I.ow
 replace ow:=ow.inv;cases ow with | cons o1 o2=>
 replace o2:=o2.inv;cases o2
 replace o1:=o1.inv;cases o1 with | rdr b1 b2 b3 b4 b5 b6 b7 b8 b9 b10=>
 have hl:=congrArg List.length b4
 rw [List.length_drop] at hl
 have e:(flat [Item.tk d]).length=1:=rfl
 rw [e] at hl
 omega
theorem Inv.reloc {U:SubP}{K:Frag}{P:Params}{own' tb' fz':Led}{s':Shared}{ho ho':List HO}{loc:List (Str × AV)}(I:Inv U K P ti fr c ⟨loc,ho⟩ ad own tb fz m s) (hf:fz⊆fz') (I':Inv U K P ti fr c ⟨[],ho'⟩ ad own' tb' fz' m s') :
  Inv U K P ti fr c ⟨loc,ho'⟩ ad own' tb' fz' m s':=⟨I'.F,I'.N,I'.nd,I'.ow,I'.tb,I.lo.mono .refl hf,I'.og⟩
theorem Inv.unloc {U:SubP}{K:Frag}{P:Params}{ho:List HO}{loc:List (Str × AV)}(I:Inv U K P ti fr c ⟨loc,ho⟩ ad own tb fz m s):Inv U K P ti fr c ⟨[],ho⟩ ad own tb fz m s:=⟨I.F,I.N,I.nd,I.ow,I.tb,(λ _ _ q=>nomatch q),I.og⟩
theorem try_ok {a2 v:AV}{ws:List Str}{toks:List Tk}{d:Tk}{x:Ad}(hF:Fun1 a2) (hR:zj8 w p loose mg mb ti D a2 toks [d] (.inl v)) (Y:Ok p loose mg mb (KF w.params) c D) (hD:80≤D) (hsc:c.sc=sc77) (hz:x.z 0=0) (hn:x.n=ws.length + 1) (hlen:ws.length≤2000) (hv:Pure v)
  (I:Inv noU (KF w.params) w.params ti fr c ⟨zq1 ws a2 0,[.rdr 0 0 ((toks++[d]).map .tk) nmA]⟩ [x] own tb fz m s) :
  wpAny (model pw_pc0148_01 w) c.A (execs ((topD 77).2.2.1.drop 2) c.env) (λ f s'=>∃ u ad' own' tb' fz' m',f=.ret u∧fz⊆fz'∧Inv noU (KF w.params) w.params ti fr c ⟨zq1 ws a2 0,[.rdr 0 ws.length [.tk d] nmA]⟩ ad' own' tb' fz' m' s'∧VR (KF w.params) w.params [] fz' (.tup [v,.bool true]) u) (λ _ _=>False) s:=by
 have hX:RXm (RX1 ti):=λ c=>rx_m _ _ c
 obtain ⟨_,e⟩:=try708
 rw [e,execs_cons]
 refine wpAny_bind (wpAny_Try_except ?_)
 obtain ⟨va,hva,hva2⟩:=(I.lo "read" a2 rfl).1 (zqf (by rw [hsc];exact zja.2.2.1))
 obtain ⟨a,rfl⟩:=hF.ref _ _ _ _ _ hva2
 have hcall:=hR c fr x own tb fz m s a Y I.unloc hva2
 have HB:=baseN (w:=w) (p:=p) (loose:=loose) (mg:=mg) (mb:=mb) 0 ti
 have FA:=HB.FA
 have FC:=HB.FC
 obtain ⟨k1,k2,k3,k4,k5,k6,k7,k8,k9,k10,k11⟩:=zja
 rw [← hsc] at k1 k2 k3 k4 k5 k6 k7 k8 k9
 refine wpAny_mono (tuple_read (Q:=λ f s'=>∃ u ad' own' tb' fz' m',f=.ret u∧fz⊆fz'∧Inv noU (KF w.params) w.params ti fr c ⟨zq1 ws a2 0,[.rdr 0 ws.length [.tk d] nmA]⟩ ad' own' tb' fz' m' s'∧VR (KF w.params) w.params [] fz' (.tup [v,.bool true]) u) (E:=λ _ _=>False) hF Y hsc I hva rfl (wpAny_call (codeAny_mono hcall λ r s₁ z=>?_))) (λ f s' h=>?_) λ _ _ h=>h.elim
 ·cases r with
  | error e=>exact z.elim
  | ok fl=>
  cases fl with
  | ret u=>
   obtain ⟨own₁,tb₁,fz₁,hf₁,k',I₁,hu⟩:=z
   have I₁:=I.reloc hf₁ I₁
   have hk:=rdr_place I₁ hz hn
   subst hk
   have h1:Sd (model pw_pc0148_01 w) noU (KF w.params) w.params ti fr (RX1 ti) c [x] fz₁ (VR (KF w.params) w.params) (eval (.Attribute (.Name "reader" ⟨527,41,527,47⟩) "at" ⟨527,41,527,50⟩) c.env) (ok (.off 0 0 ws.length) ⟨zq1 ws a2 0,[.rdr 0 ws.length [.tk d] nmA]⟩) s₁:=by
    have:=(zq8 HB 5 c (Y.le (by omega))).E fr (.Attribute (.Name "reader" ⟨527,41,527,47⟩) "at" ⟨527,41,527,50⟩) _ _ _ _ _ _ _ I₁
    rw [hsc] at this
    exact at_run (b:=false)▸this
   have h2:=sd_ecmp (op:=.Eq) (pos:=⟨527,41,527,64⟩) (σ':=⟨zq1 ws a2 0,[.rdr 0 ws.length [.tk d] nmA]⟩) (t:=true) hX rfl h1 (λ s' ad' own tb fz' m hp hf I'=>sd_lenT (x := "words") (p1:=⟨527,54,527,57⟩) (p2:=⟨527,58,527,63⟩) (p3:=⟨527,54,527,64⟩) hX FA FC (zjd false) Y I' k2 (by decide) k9 rfl (zqs ws) (by simp;omega)) ?_
   ·refine wpAny_mono h2 (λ u2 s₂ h=>?_) λ _ _ h=>h
    obtain ⟨ad₂,own₂,tb₂,fz₂,m₂,hp₂,hf₂,I₂,hu2⟩:=h
    refine wpAny_mono (tup_new I₂ (.cons ((hu.mono .refl hf₂).mono ⟨ad₂,rfl⟩ λ _ h=>h) (.cons hu2 .nil)) (by simp)) (λ t s₃ h=>?_) λ _ _ h=>h
    obtain ⟨ad₃,own₃,tb₃,fz₃,m₃,hp₃,hf₃,I₃,ht⟩:=h
    exact ⟨t,ad₃,own₃,tb₃,fz₃,m₃,rfl,λ _ h=>hf₃ (hf₂ (hf₁ h)),I₃,(Pure.tup (zq4.cons hv (zq4.cons (Pure.bool true) .nil))).2 _ _ _ _ _ ht⟩
   ·intro va vb s' ad' own tb fz' m hp hf I' hva hvb
    replace hva:=hva.inv;cases hva with | off t hx=>
    have:ad'=[x]:=by
     obtain ⟨r,rfl⟩:=hp
     have:=I'.ow.length
     simp at this
     rw [this];rfl
    subst this
    cases hx
    have hva:VR (KF w.params) w.params [x] fz' (.int (Int.ofNat ws.length)) (.int ((x.z 0 + ws.length:Nat):Int) t):=by
     rw [hz,Nat.zero_add];exact .int _ _
    refine sd_cmp FA Y.X (by have:=Y.un;simp [cLine];omega) I' hva hvb ?_
    exact congrArg some (decide_eq_true (congrArg Int.ofNat (List.length_map _).symm))
  | _=>exact z.elim
 ·obtain ⟨u,ad',own',tb',fz',m',rfl,h⟩:=h
  exact wpAny_pure ⟨u,ad',own',tb',fz',m',rfl,h⟩
end
end
section
section
variable {w:World}{ti:List TabI}{fr:Led}{c:Cx}{σ σ' σ₁ σ₂:St}{ad:List Ad}{own tb fz:Led}{m:Str→Option Value}{s:Shared}{p:Program}{loose:List Str}{mg mb:Str→Option Value}{D:Nat}
theorem try_fx {a2:AV}{ix:Int}{ws:List Str}{toks:List Tk}{d:Tk}{x:Ad}(hF:Fun1 a2) (hR:zj8 w p loose mg mb ti D a2 toks [d] (.inr ix)) (Y:Ok p loose mg mb (KF w.params) c D) (TB:TopRead p loose mg mb c.base) (hD:80≤D) (hsc:c.sc=sc77)
  (I:Inv noU (KF w.params) w.params ti fr c ⟨zq1 ws a2 0,[.rdr 0 0 ((toks++[d]).map .tk) nmA]⟩ [x] own tb fz m s) :
  wpAny (model pw_pc0148_01 w) c.A (execs ((topD 77).2.2.1.drop 2) c.env) (λ f s'=>∃ t g' m' tbl,f=.ret (.int (ix - 1) t)∧GT ti tbl∧(s'.os,s'.gens,s'.drawn)=c.og∧KtsTurn c.fs c.h₀ g'∧Fr g' c.L s'.heap m'∧News g' c.L s'.heap (tbl++(fr++fz))) (λ _ _=>False) s:=by
 obtain ⟨hq,e⟩:=try708
 obtain ⟨k1,k2,k3,k4,k5,k6,k7,k8,k9,k10,k11⟩:=zja
 rw [← hsc] at k1 k2 k3 k4 k5 k6 k7 k8 k9 k10 k11
 rw [e,execs_cons]
 refine wpAny_bind (wpAny_Try_except ?_)
 obtain ⟨va,hva,hva2⟩:=(I.lo "read" a2 rfl).1 (zqf k3)
 obtain ⟨a,rfl⟩:=hF.ref _ _ _ _ _ hva2
 have hcall:=hR c fr x own tb fz m s a Y I.unloc hva2
 refine tuple_read hF Y hsc I hva rfl (wpAny_call (codeAny_mono hcall λ r s₁ z=>?_))
 cases r with
 | ok fl=>exact z.elim
 | error e=>
  obtain ⟨R,hn⟩:=z
  obtain ⟨hp',gs,dr,tk0,os⟩:=s₁
  refine caught_fx R hn I.F.above (kts_self I.F) Y.B Y.hA Y.XB TB k1 (zxj k10) (by decide) (zqf k11) (fault_is _) (factsX _) λ ea d h' g' tk P tbl G og T F B hfz H=>?_
  have X':(KF w.params).In g':=Y.XB.keeps B.stays
  have T':TopRead p loose mg mb g':=TB.keeps B.stays
  have N':News g' c.L h' (tbl++(fr++fz)):=λ q hq=>hfz q hq
  refine wpAny_mono (fault_ret (A:=c.A.mark (some (.ref ea))) hq B X' T' Y.hA (by have:=Y.dep;show c.A.depth < _;simp [recursionLimit];omega) k1 (zqf k11) F N' (if_pos rfl) H) (λ f s₄ h=>?_) λ _ _ h=>h.elim
  obtain ⟨t,h₄,tk₄,rfl,rfl,F₄,N₄⟩:=h
  refine wpAny_nameGoes_keeps (by exact zqf k11) F₄.ns (by show (c.sc.kind == .class || (c.sc.kind == .module && c.L != mainGlobals))=false;rw [k1];rfl) λ h₅ v hn₅ hs₅=>?_
  exact wpAny_pure ⟨t,g',_,tbl,rfl,G,og,T,F₄.set hn₅ hs₅,N₄.set hs₅⟩
theorem toks_dot (ws:List Str):zqa 0 (ws++dotW)=zqa 0 ws++[tokW "." (0 + ws.length)]:=zqk 0 ws dotW
theorem fs_one {c c':Cx}(h:c'.outer=[c.env]):c'.fs=[c.L]:=by
 unfold Cx.fs
 rw [h]
 rfl
theorem fun_plain {a2:AV}{W:AV}(hF:Fun1 a2) (h:zqc [W]=true:=by rfl):zqc [W,a2]=true:=by
 have hc:=hF.can
 cases a2 with
 | sp=>cases hc
 | _=>cases W with
  | sp=>cases h
  | _=>rfl
theorem heard_ok {U:SubP}{a2 v:AV}{ws:List Str}{v1 v2:Value}(hF:Fun1 a2) (hR:zj8 w p loose mg mb ti D a2 (zqa 0 ws) [tokW "." (0 + ws.length)] (.inl v)) (hD:111≤D) (Y:Ok p loose mg mb (KF w.params) c (D + 1)) (ho:c.outer=[]) (hc:c.cl=[])
  (hv:∀ x∈ws,x∈voc) (hlen:ws.length≤2000) (hpv:Pure v) (I:Inv U (KF w.params) w.params ti fr c σ ad own tb fz m s) (h1:VR (KF w.params) w.params [] fz (.tup (ws.map .str)) v1) (h2:VR (KF w.params) w.params [] fz a2 v2) :
  codeAny (model pw_pc0148_01 w) c.A (.call (.ref 708) ⟨[v1,v2],[]⟩) (λ r s'=>match r with | .ok (.ret u)=>OkM U (KF w.params) w.params ti fr c ad fz m (.tup [v,.bool true]) σ u s' | _=>False) s:=by
 have FC:=(baseN (w:=w) (p:=p) (loose:=loose) (mg:=mg) (mb:=mb) 0 ti).FC
 refine enterH (bs:=zzd ws a2) Y ho hc (FC.fn _ _ (fn708 false)) (by kernel_rfl) (by kernel_rfl) rfl I (.cons h1 (.cons h2 .nil)) (fun_plain hF) rfl λ c' h₁ tk m' b0 b1 b2 b3 Y' hsc I'=>?_
 show wpAny _ _ (execs (topD 77).2.2.1 c'.env) _ _ _
 rw [cut708]
 refine st708_ok (b:=false) (baseN 0 ti) (Y'.le (by omega)) hsc hv hlen hF.pure (U:=noU) ⟨I'.F,I'.N,I'.nd,.nil,I'.tb,I'.lo,I'.og⟩ λ s' x own' tb' fz' m' hf hz hn I₁=>?_
 rw [toks_dot] at I₁
 refine wpAny_mono (try_ok hF hR Y' (by omega) hsc hz hn hlen hpv I₁) (λ f s₂ h=>?_) λ _ _ h=>h
 obtain ⟨u,ad₂,own₂,tb₂,fz₂,m₂,rfl,hf₂,I₂,hu⟩:=h
 exact leave_ok I I₂ b0 (λ _ h=>hf₂ (hf h)) hu λ z=>z
theorem heard_fx {U:SubP}{a2:AV}{ix:Int}{ws:List Str}{v1 v2:Value}(hF:Fun1 a2) (hR:zj8 w p loose mg mb ti D a2 (zqa 0 ws) [tokW "." (0 + ws.length)] (.inr ix)) (hD:111≤D) (Y:Ok p loose mg mb (KF w.params) c (D + 1)) (ho:c.outer=[]) (hc:c.cl=[]) (TB:TopRead p loose mg mb c.base)
  (hv:∀ x∈ws,x∈voc) (hlen:ws.length≤2000) (I:Inv U (KF w.params) w.params ti fr c σ ad own tb fz m s) (h1:VR (KF w.params) w.params [] fz (.tup (ws.map .str)) v1) (h2:VR (KF w.params) w.params [] fz a2 v2) :
  codeAny (model pw_pc0148_01 w) c.A (.call (.ref 708) ⟨[v1,v2],[]⟩) (λ r s'=>match r with | .ok (.ret u)=>OkT U (KF w.params) w.params ti fr c ad fz m (.int (ix - 1)) σ u s' | _=>False) s:=by
 have FC:=(baseN (w:=w) (p:=p) (loose:=loose) (mg:=mg) (mb:=mb) 0 ti).FC
 refine enterH (bs:=zzd ws a2) Y ho hc (FC.fn _ _ (fn708 false)) (by kernel_rfl) (by kernel_rfl) rfl I (.cons h1 (.cons h2 .nil)) (fun_plain hF) rfl λ c' h₁ tk m' b0 b1 b2 b3 Y' hsc I'=>?_
 show wpAny _ _ (execs (topD 77).2.2.1 c'.env) _ _ _
 rw [cut708]
 refine st708_ok (b:=false) (baseN 0 ti) (Y'.le (by omega)) hsc hv hlen hF.pure (U:=noU) ⟨I'.F,I'.N,I'.nd,.nil,I'.tb,I'.lo,I'.og⟩ λ s' x own' tb' fz' m' hf hz hn I₁=>?_
 rw [toks_dot] at I₁
 refine wpAny_mono (try_fx hF hR Y' (b1▸TB) (by omega) hsc I₁) (λ f s₂ h=>?_) λ _ _ h=>h
 obtain ⟨t,g',m₂,tbl,rfl,G,og,T,F₂,N₂⟩:=h
 rw [fs_one b2] at T
 exact leave_fx I G (og.trans b0) T F₂ (λ q hq=>N₂ q ((List.mem_append.mp hq).elim (List.mem_append_left _) λ z=>List.mem_append_right _ ((List.mem_append.mp z).elim (List.mem_append_left _) λ z=>List.mem_append_right _ (hf z)))) (.int _ t) λ z=>z
end
end
section
noncomputable def dA (a:AV):PyData:=AV.rec (motive_1:=λ _=>PyData) (motive_2:=λ _=>List PyData) (motive_3:=λ _=>Unit) (motive_4:=λ _=>Unit) .none .bool .int .str (λ _ ih=>.tuple ih) (λ _=>.none) (λ _=>.none) (λ _=>.none) (λ _=>.none) (λ _=>.none) (λ _=>.none) (λ _ _ _=>.none) (λ _ _ _ _ _=>.none) (λ _ _ _=>.none) (λ _=>.none) (λ _=>.none) (λ _=>.none) .none [] (λ _ _ a l=>a::l) () (λ _ _ _ _=>()) (λ _ _ _=>()) a
noncomputable def dAs (l:List AV):List PyData:=AV.rec_1 (motive_1:=λ _=>PyData) (motive_2:=λ _=>List PyData) (motive_3:=λ _=>Unit) (motive_4:=λ _=>Unit) .none .bool .int .str (λ _ ih=>.tuple ih) (λ _=>.none) (λ _=>.none) (λ _=>.none) (λ _=>.none) (λ _=>.none) (λ _=>.none) (λ _ _ _=>.none) (λ _ _ _ _ _=>.none) (λ _ _ _=>.none) (λ _=>.none) (λ _=>.none) (λ _=>.none) .none [] (λ _ _ a l=>a::l) () (λ _ _ _ _=>()) (λ _ _ _=>()) l
noncomputable def gA (a:AV):Bool:=AV.rec (motive_1:=λ _=>Bool) (motive_2:=λ _=>Bool) (motive_3:=λ _=>Unit) (motive_4:=λ _=>Unit) true (λ _=>true) (λ _=>true) (λ x=>PyData.strOk x) (λ _ ih=>ih) (λ _=>false) (λ _=>false) (λ _=>false) (λ _=>false) (λ _=>false) (λ _=>false) (λ _ _ _=>false) (λ _ _ _ _ _=>false) (λ _ _ _=>false) (λ _=>false) (λ _=>false) (λ _=>false) false true (λ _ _ a l=>a && l) () (λ _ _ _ _=>()) (λ _ _ _=>()) a
noncomputable def gAs (l:List AV):Bool:=AV.rec_1 (motive_1:=λ _=>Bool) (motive_2:=λ _=>Bool) (motive_3:=λ _=>Unit) (motive_4:=λ _=>Unit) true (λ _=>true) (λ _=>true) (λ x=>PyData.strOk x) (λ _ ih=>ih) (λ _=>false) (λ _=>false) (λ _=>false) (λ _=>false) (λ _=>false) (λ _=>false) (λ _ _ _=>false) (λ _ _ _ _ _=>false) (λ _ _ _=>false) (λ _=>false) (λ _=>false) (λ _=>false) false true (λ _ _ a l=>a && l) () (λ _ _ _ _=>()) (λ _ _ _=>()) l
theorem ffA {Q:Prop}(h:false=true):Q:=Bool.noConfusion h
theorem and_1 {a b:Bool}(h:(a && b)=true):a=true:=(Bool.and_eq_true_iff.mp h).1
theorem and_2 {a b:Bool}(h:(a && b)=true):b=true:=(Bool.and_eq_true_iff.mp h).2
theorem zxx {a b:Bool}(h:a=true) (h':b=true):(a && b)=true:=Bool.and_eq_true_iff.mpr ⟨h,h'⟩
theorem gA_c {a:AV}:gA a=true→conS a=false:=AV.casesOn (motive_1:=λ a=>gA a=true→conS a=false) a (λ _=>rfl) (λ _ _=>rfl) (λ _ _=>rfl) (λ _ _=>rfl) (λ _ _=>rfl) (λ _ _=>rfl) (λ _ _=>rfl) (λ _ _=>rfl) (λ _ _=>rfl) (λ _ _=>rfl) (λ _ _=>rfl) (λ _ _=>ffA) (λ _ _ _ _=>ffA) (λ _ _ _ _=>rfl) (λ _ _=>rfl) (λ _ _=>rfl) (λ _ _=>rfl) (λ _=>rfl)
theorem gA_lay (a:AV):gA a=true→(dA a).canLay0=true:=AV.rec (motive_1:=λ a=>gA a=true→(dA a).canLay0=true) (motive_2:=λ l=>gAs l=true→PyData.canLayAll0 (dAs l)=true) (motive_3:=λ _=>True) (motive_4:=λ _=>True) (λ _=>rfl) (λ _ _=>rfl) (λ _ _=>rfl) (λ _ h=>h) (λ _ ih h=>ih h) (λ _=>ffA) (λ _=>ffA) (λ _=>ffA) (λ _=>ffA) (λ _=>ffA) (λ _=>ffA) (λ _ _ _=>ffA) (λ _ _ _ _ _=>ffA) (λ _ _ _=>ffA) (λ _=>ffA) (λ _=>ffA) (λ _=>ffA) ffA (λ _=>rfl) (λ _ _ ia il h=>zxx (ia (and_1 h)) (il (and_2 h))) trivial (λ _ _ _ _=>trivial) (λ _ _ _=>trivial) a
section
variable {K:Frag}{P:Params}{ad:List Ad}{fz:Led}{h:Heap}
theorem gA_reads (H:∀ a o,Hd K fz a o→h.get? a=some o) (a:AV):gA a=true→∀ v:Value,VR K P ad fz a v→Reads h v (dA a) []:=AV.rec (motive_1:=λ a=>gA a=true→∀ v:Value,VR K P ad fz a v→Reads h v (dA a) []) (motive_2:=λ l=>gAs l=true→∀ vs:List Value,VRs K P ad fz l vs→ReadsAll h vs (dAs l) []) (motive_3:=λ _=>True) (motive_4:=λ _=>True) (λ _ _ x=>x.qNone rfl .none) (λ _ _ _ x=>x.qBool rfl (.bool _)) (λ _ _ _ x=>x.qInt rfl λ _=>.int _ _) (λ _ _ _ x=>x.qStr rfl λ _=>.str _ _) (λ _ ih g _ x=>x.qTup rfl λ x1 x2=>.tuple (H _ _ x1) rfl rfl (ih g _ x2)) (λ _=>ffA) (λ _=>ffA) (λ _=>ffA) (λ _=>ffA) (λ _=>ffA) (λ _=>ffA) (λ _ _ _=>ffA) (λ _ _ _ _ _=>ffA) (λ _ _ _=>ffA) (λ _=>ffA) (λ _=>ffA) (λ _=>ffA) ffA (λ _ _ x=>x.qNil .nil) (λ _ _ ia il g _ x=>x.qCons (gA_c (and_1 g)) λ x1 x2=>.cons (ia (and_1 g) _ x1) (il (and_2 g) _ x2)) trivial (λ _ _ _ _=>trivial) (λ _ _ _=>trivial) a
end
theorem d_tup (l:List AV):(dA (.tup l)).depth=PyData.depthAll (dAs l) + 1:=rfl
theorem g_tup (l:List AV):gA (.tup l)=gAs l:=rfl
theorem gAs_cons (a:AV) (l:List AV):gAs (a::l)=(gA a && gAs l):=rfl
theorem dAs_cons (a:AV) (l:List AV):PyData.depthAll (dAs (a::l))=max (dA a).depth (PyData.depthAll (dAs l)):=rfl
theorem dAs_nil:PyData.depthAll (dAs [])=0:=rfl
theorem d_str (x:Str):(dA (.str x)).depth=0:=rfl
theorem g_cT:∀ c,c < 4→gAs (cT c)=true∧PyData.depthAll (dAs (cT c))≤5
 | 0,_ | 1,_ | 2,_ | 3,_=>by decide +kernel
 | k + 4,h=>absurd h (by omega)
theorem g_smT:∀ j,j < 9→gAs (smT j)=true∧PyData.depthAll (dAs (smT j))≤7
 | 0,_ | 1,_ | 2,_ | 3,_ | 4,_ | 5,_ | 6,_ | 7,_ | 8,_=>by decide +kernel
 | k + 9,h=>absurd h (by omega)
theorem dle {a':AV}{n:Nat}{l:List AV}(h1:(dA a').depth≤n) (h2:PyData.depthAll (dAs l)≤n):PyData.depthAll (dAs (a'::l))≤n:=Nat.max_le.mpr ⟨h1,h2⟩
theorem dnil {n:Nat}:PyData.depthAll (dAs [])≤n:=Nat.zero_le _
theorem ar1 {d k:Nat}(h:d≤5):d + 1≤2 * (k + 1) + 5:=by omega
theorem ar2 {d k m:Nat}(h:d≤2 * k + 4) (hk:k≤m):d + 1≤2 * (m + 1) + 5:=by omega
theorem ar3 {d k m:Nat}(h:d≤2 * k + 5) (hk:k≤m):d + 1≤2 * (m + 1) + 4:=by omega
noncomputable abbrev GS (s:Sx):Prop:=okS s→gAs (trS s)=true∧PyData.depthAll (dAs (trS s))≤2 * hS s + 5
noncomputable abbrev GB (b:Bx):Prop:=okB b→gAs (trB b)=true∧PyData.depthAll (dAs (trB b))≤2 * hB b + 4
theorem if_ok:gA (.str "if")=true:=by decide +kernel
theorem g_iff {c t:Nat}{y:Bx}{cl:Bool}(ih:GB y):GS (.iff c t y cl):=λ h=>by
 obtain ⟨a1,a2⟩:=g_cT c h.1
 obtain ⟨b1,b2⟩:=ih h.2.2
 exact ⟨zxx if_ok (zxx a1 (zxx b1 rfl)),dle (Nat.zero_le _) (dle (ar1 a2) (dle (ar2 b2 (Nat.le_refl _)) (dle (ar1 (Nat.zero_le _)) dnil)))⟩
theorem g_ifeS {c t:Nat}{y n:Bx}{cl:Bool}(ih:GB y) (ih':GB n):GS (.ife c t y n cl):=λ h=>by
 obtain ⟨a1,a2⟩:=g_cT c h.1
 obtain ⟨b1,b2⟩:=ih h.2.2.1
 obtain ⟨c1,c2⟩:=ih' h.2.2.2
 exact ⟨zxx if_ok (zxx a1 (zxx b1 (zxx c1 rfl))),dle (Nat.zero_le _) (dle (ar1 a2) (dle (ar2 b2 (Nat.le_max_left ..)) (dle (ar2 c2 (Nat.le_max_right ..)) dnil)))⟩
theorem g_one {s:Sx}(ih:GS s):GB (.one s):=λ h=>⟨zxx (ih h).1 rfl,dle (ar3 (ih h).2 (Nat.le_refl _)) dnil⟩
theorem g_two {s s':Sx}(ih:GS s) (ih':GS s'):GB (.two s s'):=λ h=>⟨zxx (ih h.1).1 (zxx (ih' h.2.1).1 rfl),dle (ar3 (ih h.1).2 (Nat.le_max_left ..)) (dle (ar3 (ih' h.2.1).2 (Nat.le_max_right ..)) dnil)⟩
theorem g_sm1 (j:Nat):GS (.sm j):=λ h=>g_smT j h
theorem g_trS (s:Sx):okS s→gAs (trS s)=true∧PyData.depthAll (dAs (trS s))≤2 * hS s + 5:=Sx.rec (motive_1:=GS) (motive_2:=GB) g_sm1 (λ _ _ _ _=>g_iff) (λ _ _ _ _ _=>g_ifeS) (λ _=>g_one) (λ _ _=>g_two) s
theorem g_trB (s:Bx):okB s→gAs (trB s)=true∧PyData.depthAll (dAs (trB s))≤2 * hB s + 4:=Bx.rec (motive_1:=GS) (motive_2:=GB) g_sm1 (λ _ _ _ _=>g_iff) (λ _ _ _ _ _=>g_ifeS) (λ _=>g_one) (λ _ _=>g_two) s
theorem v_cW:∀ c,c < 4→∀ x∈cW c,x∈voc
 | 0,_ | 1,_ | 2,_ | 3,_=>by decide
 | k + 4,h=>absurd h (by omega)
theorem v_smW:∀ j,j < 9→∀ x∈smW j,x∈voc
 | 0,_ | 1,_ | 2,_ | 3,_ | 4,_ | 5,_ | 6,_ | 7,_ | 8,_=>by decide
 | k + 9,h=>absurd h (by omega)
theorem v_thW:∀ t,t < 2→∀ x∈thW t,x∈voc
 | 0,_ | 1,_=>by decide
 | k + 2,h=>absurd h (by omega)
theorem v_ends (n:Nat):∀ x∈ends n,x∈voc:=λ x h=>by rw [List.eq_of_mem_replicate h];decide
theorem zj3 {a b:List Str}(h1:∀ x∈a,x∈voc) (h2:∀ x∈b,x∈voc):∀ x∈a++b,x∈voc:=λ x h=>(List.mem_append.mp h).elim (h1 x) (h2 x)
theorem v_cons {y:Str}{b:List Str}(h1:y∈voc) (h2:∀ x∈b,x∈voc):∀ x∈y::b,x∈voc:=λ x h=>(List.mem_cons.mp h).elim (λ e=>e▸h1) (h2 x)
theorem v_iff {c t:Nat}{y:Bx}{cl:Bool}(ih:okB y→∀ x∈owB y,x∈voc) (h:okS (.iff c t y cl)):∀ x∈owS (.iff c t y cl),x∈voc:=by
 have k:∀ e:List Str,(∀ x∈e,x∈voc)→∀ x∈("IF":Str)::(cW c++(thW t++(owB y++e))),x∈voc:=λ e he=>v_cons (by decide) (zj3 (v_cW c h.1) (zj3 (v_thW t h.2.1) (zj3 (ih h.2.2) he)))
 cases cl
 ·exact k _ λ _ h=>nomatch h
 ·exact k _ (v_ends _)
theorem v_ife {c t:Nat}{y n:Bx}{cl:Bool}(ih:okB y→∀ x∈owB y,x∈voc) (ih':okB n→∀ x∈owB n,x∈voc) (h:okS (.ife c t y n cl)):∀ x∈owS (.ife c t y n cl),x∈voc:=by
 have k:∀ e:List Str,(∀ x∈e,x∈voc)→∀ x∈("IF":Str)::(cW c++(thW t++(owB y++(ends (zqy y)++(zqj::(owB n++e)))))),x∈voc:=λ e he=>v_cons (by decide) (zj3 (v_cW c h.1) (zj3 (v_thW t h.2.1) (zj3 (ih h.2.2.1) (zj3 (v_ends _) (v_cons (by decide) (zj3 (ih' h.2.2.2) he))))))
 cases cl
 ·exact k _ λ _ h=>nomatch h
 ·exact k _ (v_ends _)
theorem v_owS (s:Sx):okS s→∀ x∈owS s,x∈voc:=Sx.rec (motive_1:=λ s=>okS s→∀ x∈owS s,x∈voc) (motive_2:=λ b=>okB b→∀ x∈owB b,x∈voc) (λ j h=>v_smW j h) (λ _ _ _ _=>v_iff) (λ _ _ _ _ _=>v_ife) (λ _ ih=>ih) (λ _ _ ih ih' h=>zj3 (ih h.1) (ih' h.2.1)) s
theorem v_owB (s:Bx):okB s→∀ x∈owB s,x∈voc:=Bx.rec (motive_1:=λ s=>okS s→∀ x∈owS s,x∈voc) (motive_2:=λ b=>okB b→∀ x∈owB b,x∈voc) (λ j h=>v_smW j h) (λ _ _ _ _=>v_iff) (λ _ _ _ _ _=>v_ife) (λ _ ih=>ih) (λ _ _ ih ih' h=>zj3 (ih h.1) (ih' h.2.1)) s
section
variable {prog:Program}{w:World}{K:Frag}{ti:List TabI}{fr:Led}{U:SubP}{c:Cx}{RX:Cx→Led→Int→Value→Shared→Prop}
 {σ σ' σ₁ σ₂:St}{ad:List Ad}{own tb fz:Led}{m:Str→Option Value}{s:Shared}{p:Program}{loose:List Str}{mg mb:Str→Option Value}
theorem sd_same {n:Nat}{a:AV}{va vb:Value}(Y:Ok p loose mg mb K c n) (I:Inv U K w.params ti fr c σ ad own tb fz m s) (g:gA a=true) (hd:(dA a).depth≤100) (ha:VR K w.params ad fz a va) (hb:VR K w.params ad fz a vb) :
  Sd (model prog w) U K w.params ti fr RX c ad fz BoolV (compareOp .NotEq va vb) (ok false σ) s:=by
 have H:∀ a o,Hd K fz a o→s.heap.get? a=some o:=λ a o h=>I.hd Y.X h
 have r1:=gA_reads (h:=s.heap) H a g va ha
 have r2:=gA_reads (h:=s.heap) H a g vb hb
 have lay:=gA_lay a g
 refine SeqAt.compareNe_reads r1 r2 lay lay (by have:=Y.un;rw [Nat.min_self];simp [cLine];omega) ?_
 have e:(!PyData.eqv (dA a) (dA a))=false:=by rw [SeqAt.eqv_refl _ lay];rfl
 rw [e]
 exact .mk I (by exact rfl)
end
end
section
noncomputable abbrev sc83:Scope:=(topD 83).2.2.2
@[irreducible] noncomputable def L83 (i:Nat):List Stmt:=(topD 83).2.2.1.drop i
theorem s83_0:L83 0=(by refine' (?f:∀ s r,(topD 83).2.2.1.drop 0=s::r→Stmt) _ _ ?h;exact λ s _ _=>s;case h=>conv=>lhs;whnf)::L83 1:=by unfold L83;rfl
theorem s83_1:L83 1=(by refine' (?f:∀ s r,(topD 83).2.2.1.drop 1=s::r→Stmt) _ _ ?h;exact λ s _ _=>s;case h=>conv=>lhs;whnf)::L83 2:=by unfold L83;rfl
theorem s83_2:L83 2=(by refine' (?f:∀ s r,(topD 83).2.2.1.drop 2=s::r→Stmt) _ _ ?h;exact λ s _ _=>s;case h=>conv=>lhs;whnf)::L83 3:=by unfold L83;rfl
theorem s83_3:L83 3=(by refine' (?f:∀ s r,(topD 83).2.2.1.drop 3=s::r→Stmt) _ _ ?h;exact λ s _ _=>s;case h=>conv=>lhs;whnf)::L83 4:=by unfold L83;rfl
theorem s83_4:L83 4=(by refine' (?f:∀ s r,(topD 83).2.2.1.drop 4=s::r→Stmt) _ _ ?h;exact λ s _ _=>s;case h=>conv=>lhs;whnf)::L83 5:=by unfold L83;rfl
theorem s83_6:L83 6=(by refine' (?f:∀ s r,(topD 83).2.2.1.drop 6=s::r→Stmt) _ _ ?h;exact λ s _ _=>s;case h=>conv=>lhs;whnf)::L83 7:=by unfold L83;rfl
theorem kinds83:sc83.kind=.function∧(∀ x∈(["script", "source", "words", "tree", "left", "some", "small", "reader", "at", "odd"]:List Str),zqt sc83 x=true) ∧
  ∀ x∈(["_law_source", "_law_if_words", "_law_heard", "_law_read", "_law_small", "Reader", "_law_tokens", "_law_statements", "len", "_law_draw"]:List Str),zxk sc83 x=true:=
 ⟨by kernel_rfl,by decide +kernel,by decide +kernel⟩
structure LawC (w:World) (p:Program) (loose:List Str) (mg mb:Str→Option Value) (c:Cx):Prop where
 Y:Ok p loose mg mb (KF w.params) c 620
 out:c.outer=[]
 cl:c.cl=[]
 sc:c.sc=sc83
 TB:TopRead p loose mg mb c.base
section
variable {w:World}{p:Program}{loose:List Str}{mg mb:Str→Option Value}{c:Cx}
theorem LawC.kf (C:LawC w p loose mg mb c):c.sc.kind=.function:=C.Y.kf
theorem LawC.loc (C:LawC w p loose mg mb c) {x:Str}(h:x∈(["script", "source", "words", "tree", "left", "some", "small", "reader", "at", "odd"]:List Str)):zqt c.sc x=true:=by
 rw [C.sc];exact kinds83.2.1 x h
theorem LawC.gl (C:LawC w p loose mg mb c) {x:Str}(h:x∈(["_law_source", "_law_if_words", "_law_heard", "_law_read", "_law_small", "Reader", "_law_tokens", "_law_statements", "len", "_law_draw"]:List Str)):zxk c.sc x=true:=by
 rw [C.sc];exact kinds83.2.2 x h
end
theorem run_if (a:AV) (W T:List AV) (l:Int) (r:List Tape) (p1 p2 p3 p4 p5 p6 p7 p8 p9:Pos):(run out 30).S sc83 (.Assign [.Tuple [.Name "words" p1,.Name "tree" p2,.Name "left" p3] 0 p4] (.Call (.Name "_law_if_words" p5) [.Name "source" p6,.Constant (.int 1) 0 p7] [] p8) p9)
  ⟨[("script",a),("source",.hnd 0)],[.src (.call 743 1 (.tup [.tup W,.tup T,.int l])::r)]⟩=ok .next ⟨[("script",a),("source",.hnd 0),("words",.tup W),("tree",.tup T),("left",.int l)],[.src r]⟩:=by kernel_rfl
theorem run_small (a l:AV) (W T X Y:List AV) (r:List Tape) (p1 p2 p3 p4 p5 p6 p7:Pos):(run out 30).S sc83 (.Assign [.Tuple [.Name "some" p1,.Name "small" p2] 0 p3] (.Call (.Name "_law_small" p4) [.Name "source" p5] [] p6) p7)
  ⟨[("script",a),("source",.hnd 0),("words",.tup W),("tree",.tup T),("left",l)],[.src (.call 715 0 (.tup [.tup X,.tup Y])::r)]⟩=ok .next ⟨[("script",a),("source",.hnd 0),("words",.tup W),("tree",.tup T),("left",l),("some",.tup X),("small",.tup Y)],[.src r]⟩:=by kernel_rfl
end
section
section
variable {w:World}{p:Program}{loose:List Str}{mg mb:Str→Option Value}{c:Cx}{fr:Led}{ad:List Ad}{own tb fz:Led}{m:Str→Option Value}{s:Shared}{Q:Flow→Shared→Prop}{E:Value→Shared→Prop}{rest:List Stmt}
noncomputable abbrev UL (w:World) (p:Program) (loose:List Str) (mg mb:Str→Option Value):SubP:=lvl w p loose mg mb 420
theorem baseL:Base pw_pc0148_01 w (KF w.params) tis (UL w p loose mg mb) out p loose mg mb 420:=baseK 350
noncomputable abbrev IL (w:World) (p:Program) (loose:List Str) (mg mb:Str→Option Value) (fr:Led) (c:Cx) (loc:List (Str × AV)) (ho:List HO):=Inv (UL w p loose mg mb) (KF w.params) w.params tis fr c ⟨loc,ho⟩
theorem zq7 {ti:List TabI}{U:SubP}{RX:Cx→Led→Int→Value→Shared→Prop}{st:Stmt}{σ':St}(h:Sd (model pw_pc0148_01 w) U (KF w.params) w.params ti fr RX c ad fz (FlR (KF w.params) w.params) (exec st c.env) (ok .next σ') s)
  (k:∀ s' ad' own tb fz' m',Pre ad ad'→fz⊆fz'→Inv U (KF w.params) w.params ti fr c σ' ad' own tb fz' m' s'→wpAny (model pw_pc0148_01 w) c.A (execs rest c.env) Q E s'):wpAny (model pw_pc0148_01 w) c.A (execs (st::rest) c.env) Q E s:=by
 rw [execs_cons]
 refine wpAny_bind (wpAny_mono h (λ f s' ⟨ad',own,tb,fz',m',a1,a2,a3,a4⟩=>?_) λ _ _ h=>h.elim)
 replace a4:=a4.inv;cases a4
 exact k s' ad' own tb fz' m' a1 a2 a3
theorem Inv.relo {ti:List TabI}{U:SubP}{K:Frag}{P:Params}{loc loc':List (Str × AV)}{ho:List HO}(I:Inv U K P ti fr c ⟨loc,ho⟩ ad own tb fz m s) (h:LocF ad ad loc loc'):Inv U K P ti fr c ⟨loc',ho⟩ ad own tb fz m s:=
 ⟨I.F,I.N,I.nd,I.ow,I.tb,I.lo.map λ _ _ e=>h.look e,I.og⟩
theorem HdF.unsp {ad:List Ad}{l:List AV}{n:Nat}:HdF ad ad (.tup [.sp l n]) (.tup l):=λ K P fz v h=>by
 replace h:=h.inv;cases h with | tup h1 h2=>
 cases h2 with
 | cons a b=>replace a:=a.inv;cases a
 | sp a e b d=>
  replace d:=d.inv;cases d
  rw [List.append_nil] at h1
  exact .tup h1 a
theorem HdF.rfl' {ad:List Ad}{a:AV}:HdF ad ad a a:=λ _ _ _ _ h=>h
noncomputable abbrev loc2 (a:Addr) (W:List Str) (T:List AV) (l:Int):List (Str × AV):=[("script",.gref a),("source",.hnd 0),("words",.tup (W.map .str)),("tree",.tup T),("left",.int l)]
noncomputable abbrev loc4 (a:Addr) (W:List Str) (T:List AV) (l:Int) (V:List Str) (T':List AV):List (Str × AV):=[("script",.gref a),("source",.hnd 0),("words",.tup (W.map .str)),("tree",.tup T),("left",.int l),("some",.tup (V.map .str)),("small",.tup T')]
theorem law_S2 (C:LawC w p loose mg mb c) {a:Addr}{W:List Str}{T:List AV}{l:Nat}{r:List Tape}(I:IL w p loose mg mb fr c [("script",.gref a),("source",.hnd 0)] [.src (.call 743 1 (rB (stW W) T l)::r)] ad own tb fz m s)
  (k:∀ s' ad' own tb fz' m',fz⊆fz'→IL w p loose mg mb fr c (loc2 a W T (Int.ofNat l)) [.src r] ad' own tb fz' m' s'→wpAny (model pw_pc0148_01 w) c.A (execs (L83 2) c.env) Q E s'):wpAny (model pw_pc0148_01 w) c.A (execs (L83 1) c.env) Q E s:=by
 have e:=s83_1
 rw [e]
 have h:=(zq8 baseL 30 c (C.Y.le (by decide))).S fr (.Assign [.Tuple [.Name "words" ⟨582,4,582,9⟩,.Name "tree" ⟨582,11,582,15⟩,.Name "left" ⟨582,17,582,21⟩] 0 ⟨582,4,582,21⟩] (.Call (.Name "_law_if_words" ⟨582,24,582,37⟩) [.Name "source" ⟨582,38,582,44⟩,.Constant (.int 1) 0 ⟨582,46,582,47⟩] [] ⟨582,24,582,48⟩) ⟨582,4,582,48⟩) _ _ _ _ _ _ _ I
 rw [C.sc,run_if] at h
 refine zq7 h λ s' ad' own tb fz' m' hp hf I'=>?_
 exact k s' ad' own tb fz' m' hf (I'.relo (.cons .rfl' (.cons .rfl' (.cons .unsp (.cons .rfl' (.cons .rfl' .nil))))))
theorem glob_heard (b:Bool):(outL b).glob "_law_heard" = some (.gref 708):=by kernel_rfl
theorem glob_read (b:Bool):(outL b).glob "_law_read" = some (.gref 722):=by kernel_rfl
theorem row_run (b:Bool) (ad:AV) (W T:List AV) (l:AV) (ho:List HO) (k:Nat) (p5 p6 p7:Pos):(run (outL b) 10).E sc83 (.Tuple [.Name "tree" p5,.Constant (.bool true) 0 p6] k p7) ⟨[("script",ad),("source",.hnd 0),("words",.tup W),("tree",.tup T),("left",l)],ho⟩ =
 ok (.tup [.tup T,.bool true]) ⟨[("script",ad),("source",.hnd 0),("words",.tup W),("tree",.tup T),("left",l)],ho⟩:=by kernel_rfl
theorem law_S3 (C:LawC w p loose mg mb c) {a:Addr}{x:Sx}{l:Int}{r:List Tape}(hx:okS x) (hh:hS x≤7) (hl:(owS x).length≤2000) (hf5:fnS x=405) (I:IL w p loose mg mb fr c (loc2 a (owS x) (trS x) l) [.src r] ad own tb fz m s)
  (k:∀ s' ad' own tb fz' m',fz⊆fz'→IL w p loose mg mb fr c (loc2 a (owS x) (trS x) l) [.src r] ad' own tb fz' m' s'→wpAny (model pw_pc0148_01 w) c.A (execs (L83 3) c.env) Q E s'):wpAny (model pw_pc0148_01 w) c.A (execs (L83 2) c.env) Q E s:=by
 have hX:RXm (RX1 tis):=λ c=>rx_m _ _ c
 have e:=s83_2
 rw [e]
 have HB:=baseL (w:=w) (p:=p) (loose:=loose) (mg:=mg) (mb:=mb)
 have g:=g_trS x hx
 have gA1:gA (.tup [.tup (trS x),.bool true])=true:=zxx g.1 rfl
 have gD:(dA (.tup [.tup (trS x),.bool true])).depth≤100:=by
  rw [d_tup,dAs_cons,d_tup]
  have:PyData.depthAll (dAs [.bool true])=0:=by decide +kernel
  omega
 obtain ⟨h0,t0,_,_,ew⟩:=zjr x hx
 have hrd:zj8 w p loose mg mb tis (NN 7 + 20) (.gref 722) (zqa 0 (owS x)) [tokW "." (0 + (owS x).length)] (.inl (.tup (trS x))):=by
  have hb:=(readOS (w:=w) (p:=p) (loose:=loose) (mg:=mg) (mb:=mb) x hx).le hh "." (.head _) 0 (0 + (owS x).length) []
  rw [hf5] at hb
  rw [ew] at hb ⊢
  exact read722 hb λ v e=>by cases e;exact Pure.tup (zz7 x)
 refine zq7 (ad:=ad) (RX:=RX1 tis) (σ':=⟨loc2 a (owS x) (trS x) l,[.src r]⟩) (sd_if0 hX (sd_tcmp (σ₁:=⟨loc2 a (owS x) (trS x) l,[.src r]⟩) (σ₂:=⟨loc2 a (owS x) (trS x) l,[.src r]⟩) (a:=.tup [.tup (trS x),.bool true]) (b:=.tup [.tup (trS x),.bool true]) hX rfl ?_ ?_ ?_)) λ s' ad' own tb fz' m' _ hf I'=>k s' ad' own tb fz' m' hf I'
 ·refine zxh (fa:=.gref 708) (as:=[.tup ((owS x).map .str),.gref 722]) hX HB.FA HB.FC C.Y I (C.gl (by decide)) (by decide) (glob_heard true) (by kernel_rfl) rfl (λ s' ad' own tb fz' m _ _ I'=>zxm hX rfl (zzv HB.FA C.Y I' (C.loc (by decide)) (by decide) rfl) λ s' ad' own tb fz' m _ _ I'=>
   zxm hX rfl (sd_gl HB.FA C.Y I' (C.gl (by decide)) (by decide) (glob_read true)) λ s' ad' own tb fz' m _ _ I'=>zx0 I') ?_
  intro vf vs ad' own tb fz' m s' _ _ I' h1 h2
  replace h1:=h1.inv;cases h1
  replace h2:=h2.inv;cases h2 with | cons g1 g2=>
  replace g2:=g2.inv;cases g2 with | cons g2 g3=>
  replace g3:=g3.inv;cases g3
  exact SdV.call (heard_ok fun722 hrd (by decide) (C.Y.le (by decide)) C.out C.cl (v_owS x hx) hl (Pure.tup (zz7 x)) I' (zxz [] g1) (zjc _ _ _ _ _ _ g2))
 ·intro s' ad' own tb fz' m _ _ I'
  have:=(zq8 HB 10 c (C.Y.le (by decide))).E fr (.Tuple [.Name "tree" ⟨583,40,583,44⟩,.Constant (.bool true) 0 ⟨583,46,583,50⟩] 0 ⟨583,39,583,51⟩) _ _ _ _ _ _ _ I'
  rw [C.sc] at this
  exact (row_run true (.gref a) ((owS x).map .str) (trS x) (.int l) [.src r] 0 ⟨583,40,583,44⟩ ⟨583,46,583,50⟩ ⟨583,39,583,51⟩)▸this
 ·intro va vb s' ad' own tb fz' m _ _ I' ha hb
  exact sd_same C.Y I' gA1 gD ha hb
end
end
section
section
variable {w:World}{p:Program}{loose:List Str}{mg mb:Str→Option Value}{c:Cx}{fr:Led}{ad:List Ad}{own tb fz:Led}{m:Str→Option Value}{s:Shared}{Q:Flow→Shared→Prop}{E:Value→Shared→Prop}{rest:List Stmt}
theorem law_S4 (C:LawC w p loose mg mb c) {a:Addr}{W V:List Str}{T T':List AV}{l:Int}{r:List Tape}(I:IL w p loose mg mb fr c (loc2 a W T l) [.src (.call 715 0 (rM (stW V) T')::r)] ad own tb fz m s)
  (k:∀ s' ad' own tb fz' m',fz⊆fz'→IL w p loose mg mb fr c (loc4 a W T l V T') [.src r] ad' own tb fz' m' s'→wpAny (model pw_pc0148_01 w) c.A (execs (L83 4) c.env) Q E s'):wpAny (model pw_pc0148_01 w) c.A (execs (L83 3) c.env) Q E s:=by
 have e:=s83_3
 rw [e]
 have h:=(zq8 baseL 30 c (C.Y.le (by decide))).S fr (.Assign [.Tuple [.Name "some" ⟨585,4,585,8⟩,.Name "small" ⟨585,10,585,15⟩] 0 ⟨585,4,585,15⟩] (.Call (.Name "_law_small" ⟨585,18,585,28⟩) [.Name "source" ⟨585,29,585,35⟩] [] ⟨585,18,585,36⟩) ⟨585,4,585,36⟩) _ _ _ _ _ _ _ I
 rw [C.sc,run_small] at h
 refine zq7 h λ s' ad' own tb fz' m' hp hf I'=>?_
 exact k s' ad' own tb fz' m' hf (I'.relo (.cons .rfl' (.cons .rfl' (.cons .rfl' (.cons .rfl' (.cons .rfl' (.cons .unsp (.cons .rfl' .nil))))))))
theorem run_dot (b:Bool) (a T T' l h:AV) (p4 p5 p6 p7:Pos) (k:Nat) (W:AV) (r:List HO):∀ j,j < 9→(run (outL b) 10).E sc83 (.BinOp (.Name "some" p4) .Add (.Tuple [.Constant (.str ".") 0 p5] k p6) p7) ⟨[("script",a),("source",h),("words",W),("tree",T),("left",l),("some",.tup ((smW j).map .str)),("small",T')],r⟩ =
  ok (.tup ((smW j++dotW).map .str)) ⟨[("script",a),("source",h),("words",W),("tree",T),("left",l),("some",.tup ((smW j).map .str)),("small",T')],r⟩
 | 0,_ | 1,_ | 2,_ | 3,_ | 4,_ | 5,_ | 6,_ | 7,_ | 8,_=>by kernel_rfl
 | k + 9,h=>absurd h (by omega)
theorem mk_reader1 (b:Bool) (l:List (Str × AV)) (h0:HO) (T:List AV):(run (outL b) 30).C (.gref 637) [.hnd 1] ⟨l,[h0,.lst T]⟩=ok (.hnd 2) ⟨l,[h0,.lst T,.inst 637 [("tokens",.hnd 1),("at",.int 0),("named",.fdict [])]]⟩:=by kernel_rfl
theorem dot_voc:∀ x∈dotW,x∈voc:=by decide
noncomputable abbrev loc5 (a:Addr) (W:List Str) (T:List AV) (l:Int) (V:List Str) (T':List AV) (j:Nat):List (Str × AV):=[("script",.gref a),("source",.hnd 0),("words",.tup (W.map .str)),("tree",.tup T),("left",.int l),("some",.tup (V.map .str)),("small",.tup T'),("reader",.hnd j)]
theorem law_S5 (C:LawC w p loose mg mb c) {a:Addr}{W:List Str}{T:List AV}{j:Nat}(hj:j < 9) (hT:zq4 T) {l:Int}{r:List Tape}(I:IL w p loose mg mb fr c (loc4 a W T l (smW j) (smT j)) [.src r] ad own tb fz m s)
  (k:∀ s' x z own tb fz' m',fz⊆fz'→z.z 0=0→IL w p loose mg mb fr c (loc5 a W T l (smW j) (smT j) 1) [.src r,.rdr 0 0 ((zqa 0 (smW j++dotW)).map .tk) (.fdict [])] [x,z] own tb fz' m' s'→wpAny (model pw_pc0148_01 w) c.A (execs (L83 5) c.env) Q E s'):wpAny (model pw_pc0148_01 w) c.A (execs (L83 4) c.env) Q E s:=by
 have hX:RXm (RX1 tis):=λ c=>rx_m _ _ c
 have e:=s83_4
 rw [e]
 have HB:=baseL (w:=w) (p:=p) (loose:=loose) (mg:=mg) (mb:=mb)
 let T1:List AV:=(zqa 0 (smW j++dotW)).map .tok
 have hl1:(smW j++dotW).length≤2500:=by have:=len_sm j;rw [List.length_append];show _ + 1≤2500;omega
 have htok:∀ {s:Shared}{ad:List Ad}{own tb fz:Led}{m:Str→Option Value},IL w p loose mg mb fr c (loc4 a W T l (smW j) (smT j)) [.src r] ad own tb fz m s →
   Sd (model pw_pc0148_01 w) (UL w p loose mg mb) (KF w.params) w.params tis fr (RX1 tis) c ad fz (VR (KF w.params) w.params) (eval (.Call (.Name "_law_tokens" ⟨586,20,586,31⟩) [.BinOp (.Name "some" ⟨586,32,586,36⟩) .Add (.Tuple [.Constant (.str ".") 0 ⟨586,40,586,43⟩] 0 ⟨586,39,586,45⟩) ⟨586,32,586,45⟩] [] ⟨586,20,586,46⟩) c.env)
    (ok (.hnd 1) ⟨loc4 a W T l (smW j) (smT j),[.src r,.lst T1]⟩) s:=λ I=>
  zxh (as:=[.tup ((smW j++dotW).map .str)]) hX HB.FA HB.FC C.Y I (C.gl (by decide)) (by decide) (zkp true) (by kernel_rfl) rfl (λ s' ad' own tb fz' m hp hf I'=>zxm hX rfl (by
    have:=(zq8 HB 10 c (C.Y.le (by decide))).E fr (.BinOp (.Name "some" ⟨586,32,586,36⟩) .Add (.Tuple [.Constant (.str ".") 0 ⟨586,40,586,43⟩] 0 ⟨586,39,586,45⟩) ⟨586,32,586,45⟩) _ _ _ _ _ _ _ I'
    rw [C.sc] at this
    exact (run_dot true (.gref a) (.tup T) (.tup (smT j)) (.int l) (.hnd 0) ⟨586,32,586,36⟩ ⟨586,40,586,43⟩ ⟨586,39,586,45⟩ ⟨586,32,586,45⟩ 0 (.tup (W.map .str)) [.src r] j hj)▸this) λ s' ad' own tb fz' m hp hf I'=>zx0 I')
   λ vf vs ad' own tb fz' m s' hp hf I' h1 h2=>by
    replace h1:=h1.inv;cases h1
    replace h2:=h2.inv;cases h2 with | cons g1 g2=>
    replace g2:=g2.inv;cases g2
    exact (sd_694t (D:=350) HB (C.Y.le (by decide)) (zj3 (v_smW j hj) dot_voc) hl1 I' g1).call
 have hrd:∀ {s:Shared}{ad:List Ad}{own tb fz:Led}{m:Str→Option Value},IL w p loose mg mb fr c (loc4 a W T l (smW j) (smT j)) [.src r] ad own tb fz m s →
   Sd (model pw_pc0148_01 w) (UL w p loose mg mb) (KF w.params) w.params tis fr (RX1 tis) c ad fz (VR (KF w.params) w.params) (eval (.Call (.Name "Reader" ⟨586,13,586,19⟩) [.Call (.Name "_law_tokens" ⟨586,20,586,31⟩) [.BinOp (.Name "some" ⟨586,32,586,36⟩) .Add (.Tuple [.Constant (.str ".") 0 ⟨586,40,586,43⟩] 0 ⟨586,39,586,45⟩) ⟨586,32,586,45⟩] [] ⟨586,20,586,46⟩] [] ⟨586,13,586,47⟩) c.env)
    (ok (.hnd 2) ⟨loc4 a W T l (smW j) (smT j),[.src r,.lst T1,.inst 637 [("tokens",.hnd 1),("at",.int 0),("named",.fdict [])]]⟩) s:=λ I=>
  zxh (as:=[.hnd 1]) hX HB.FA HB.FC C.Y I (C.gl (by decide)) (by decide) (zkq true) (by kernel_rfl) rfl (λ s' ad' own tb fz' m hp hf I'=>zxm hX rfl (htok I') λ s' ad' own tb fz' m hp hf I'=>zx0 I')
   λ vf vs ad' own tb fz' m s' hp hf I' h1 h2=>by
    replace h1:=h1.inv;cases h1
    have:=((zq8 HB 30 c (C.Y.le (by decide))).C fr (.gref 637) 637 [.hnd 1] _ _ _ _ _ _ _ _ I' (.gref 637) h2 rfl).call
    rw [mk_reader1] at this
    exact this
 refine zq7 (zjy (q:=⟨586,4,586,10⟩) (pos:=⟨586,4,586,47⟩) hX C.kf (C.loc (by decide)) rfl (hrd I)) λ s₁ ad₁ own₁ tb₁ fz₁ m₁ hp₁ hf₁ I₁=>?_
 have I₁:IL w p loose mg mb fr c (loc5 a W T l (smW j) (smT j) 2) [.src r,.lst T1,.inst 637 [("tokens",.hnd 1),("at",.int 0),("named",.fdict [])]] ad₁ own₁ tb₁ fz₁ m₁ s₁:=I₁
 have hl:∀ ad₀ ad₂' x y z,ad₁=ad₀++(ad₂'++[x,y])→ad₀.length=[HO.src r].length→ad₂'.length=([]:List HO).length→z.a=y.a→∀ n a',zqn n (loc5 a W T l (smW j) (smT j) 1)=some a'→∃ a₀,zqn n (loc5 a W T l (smW j) (smT j) 2)=some a₀∧HdF ad₁ (ad₀++[z]) a₀ a':=by
  intro ad₀ ad₂' x y z e h1 h2' hz n a' q
  have h0:ad₂'=[]:=List.eq_nil_of_length_eq_zero h2'
  subst h0
  obtain ⟨x0,rfl⟩:=List.length_eq_one_iff.mp h1
  subst e
  refine LocF.look (.cons (.any λ _ _ _ _ _ h=>by replace h:=h.inv;cases h;exact .gref _) (.cons (HdF.hnd (x:=x0) (y:=x0) rfl rfl rfl) (.cons (λ K P fz v h=>zxz _ h) (.cons ?_ (.cons (.any λ _ _ _ _ _ h=>by replace h:=h.inv;cases h;exact .int _ _) (.cons (λ K P fz v h=>zxz _ h) (.cons ?_ (.cons (HdF.hnd (x:=y) (y:=z) rfl rfl hz) .nil)))))))) q
  ·exact HdF.pure (Pure.tup hT)
  ·exact HdF.pure (Pure.tup (zka j))
 obtain ⟨ad₀,z,own',fz',hs,hp0,hlz,hz0,hzn,_,I'⟩:=to_rdr (A:=[.src r]) (B:=[]) (toks:=zqa 0 (smW j++dotW)) (l:=[]) (loc':=loc5 a W T l (smW j) (smT j) 1) I₁ rfl still_src (by rw [zzl];omega) hl
 obtain ⟨x0,rfl⟩:=List.length_eq_one_iff.mp hlz
 exact k s₁ x0 z own' tb₁ fz' m₁ (λ _ h=>hs (hf₁ h)) hz0 I'
end
end
section
noncomputable def resS1 (x:Ou AV):Option (AV × List (Str × AV) × HO × Nat × Nat):=bd (okA x) λ p=>List.rec none (λ h0 r _=>List.rec none (λ o _ _=>mp (λ q=>(p.1,p.2.loc,h0,q.e,q.k)) o.rdr?) r) p.2.ho
theorem resS1_ex {x:Ou AV}{v:AV}{l:List (Str × AV)}{h0:HO}{e k:Nat}(h:resS1 x=some (v,l,h0,e,k)):∃ r nm junk,x=some (.ok v ⟨l,h0::.rdr e k r nm::junk⟩):=by
 exact bd_q h λ p h1 h=>head_q (Q:=λ ho=>x=some (.ok p.1 ⟨p.2.loc,ho⟩)→∃ r nm junk,x=some (.ok v ⟨l,h0::.rdr e k r nm::junk⟩)) h (λ o1 r1 h=>head_q (Q:=λ ho=>x=some (.ok p.1 ⟨p.2.loc,o1::ho⟩)→∃ r nm junk,x=some (.ok v ⟨l,h0::.rdr e k r nm::junk⟩)) (f:=λ o _=>mp (λ q=>(p.1,p.2.loc,o1,q.e,q.k)) o.rdr?) h λ o r2 h e=>
  mp_q (Q:=λ t=>∃ r nm junk,x=some (.ok t.1 ⟨t.2.1,t.2.2.1::.rdr t.2.2.2.1 t.2.2.2.2 r nm::junk⟩)) h λ q h2=>⟨q.rest,q.nm,r2,HO.rdr_e h2▸e⟩) (okA_e h1)
theorem r_stm (l:List (Str × AV)) (h0:HO):∀ j,j < 9→resS1 ((run out 100).C (.gref 729) [.hnd 1] ⟨l,[h0,.rdr 0 0 ((zqa 0 (smW j++dotW)).map .tk) (.fdict [])]⟩)=some (.tup [.tup (smT j)],l,h0,0,(smW j).length)
 | 0,_ | 1,_ | 2,_ | 3,_ | 4,_ | 5,_ | 6,_ | 7,_ | 8,_=>by rw [zjj];kernel_rfl
 | k + 9,h=>absurd h (by omega)
theorem t83_5:L83 5=(by refine' (?f:∀ s r,(topD 83).2.2.1.drop 5=s::r→Stmt) _ _ ?h;exact λ s _ _=>s;case h=>conv=>lhs;whnf)::L83 6:=by unfold L83;rfl
theorem run_sm (b:Bool) (a h T l W S R:AV) (T':List AV) (ho:List HO) (k:Nat) (p4 p5:Pos):(run (outL b) 10).E sc83 (.Tuple [.Name "small" p4] k p5) ⟨[("script",a),("source",h),("words",W),("tree",T),("left",l),("some",S),("small",.tup T'),("reader",R)],ho⟩ =
  ok (.tup [.tup T']) ⟨[("script",a),("source",h),("words",W),("tree",T),("left",l),("some",S),("small",.tup T'),("reader",R)],ho⟩:=by kernel_rfl
theorem run_at1 (b:Bool) (a h T l W S T':AV) (h0:HO) (e k:Nat) (r:List Item) (nm:AV) (junk:List HO) (p7 p8:Pos):(run (outL b) 10).E sc83 (.Attribute (.Name "reader" p7) "at" p8) ⟨[("script",a),("source",h),("words",W),("tree",T),("left",l),("some",S),("small",T'),("reader",.hnd 1)],h0::.rdr e k r nm::junk⟩ =
  ok (.off 1 e k) ⟨[("script",a),("source",h),("words",W),("tree",T),("left",l),("some",S),("small",T'),("reader",.hnd 1)],h0::.rdr e k r nm::junk⟩:=by kernel_rfl
theorem glob_stm (b:Bool):(outL b).glob "_law_statements" = some (.gref 729):=by kernel_rfl
section
variable {prog:Program}{w:World}{K:Frag}{ti:List TabI}{fr:Led}{U:SubP}{c:Cx}{RX:Cx→Led→Int→Value→Shared→Prop}{σ₁ σ₂:St}{ad:List Ad}{fz:Led}{s:Shared}
theorem sd_or2 (hRX:RXm RX) {a b:PySem.Expr}{pos:Pos}(h1:Sd (model prog w) U K w.params ti fr RX c ad fz EqB (isTrue a c.env (eval a c.env)) (ok false σ₁) s)
  (h2:∀ s' ad' own tb fz' m,Pre ad ad'→fz⊆fz'→Inv U K w.params ti fr c σ₁ ad' own tb fz' m s'→Sd (model prog w) U K w.params ti fr RX c ad' fz' EqB (isTrue b c.env (eval b c.env)) (ok false σ₂) s') :
  Sd (model prog w) U K w.params ti fr RX c ad fz EqB (isTrue (.BoolOp .Or [a,b] pos) c.env (eval (.BoolOp .Or [a,b] pos) c.env)) (ok false σ₂) s:=by
 show Sd _ _ _ _ _ _ _ _ _ _ _ (do
   match BoolOp.Or,← isTrue a c.env (eval a c.env) with
   | .And,false=>pure false
   | .Or,true=>pure true
   | _,_=>allTrue .Or [b] c.env) _ _
 refine Sd.seq hRX h1 λ v s' ad' own tb fz' m hp hf I' hv=>?_
 cases hv
 show Sd _ _ _ _ _ _ _ _ _ _ _ (do
   match BoolOp.Or,← isTrue b c.env (eval b c.env) with
   | .And,false=>pure false
   | .Or,true=>pure true
   | _,_=>allTrue .Or [] c.env) _ _
 refine Sd.seq hRX (h2 s' ad' own tb fz' m hp hf I') λ v s' ad' own tb fz' m hp hf I' hv=>?_
 cases hv
 exact Sd.ok I' rfl
end
section
variable {w:World}{p:Program}{loose:List Str}{mg mb:Str→Option Value}{c:Cx}{fr:Led}{ad:List Ad}{own tb fz:Led}{m:Str→Option Value}{s:Shared}{Q:Flow→Shared→Prop}{E:Value→Shared→Prop}{rest:List Stmt}
theorem law_S6 (C:LawC w p loose mg mb c) {a:Addr}{W:List Str}{T:List AV}{j:Nat}(hj:j < 9) {l:Int}{h0:HO}{x z:Ad}(hz:z.z 0=0) (I:IL w p loose mg mb fr c (loc5 a W T l (smW j) (smT j) 1) [h0,.rdr 0 0 ((zqa 0 (smW j++dotW)).map .tk) (.fdict [])] [x,z] own tb fz m s)
  (k:∀ s' ad' own tb fz' m' o1 junk,fz⊆fz'→IL w p loose mg mb fr c (loc5 a W T l (smW j) (smT j) 1) (h0::o1::junk) ad' own tb fz' m' s'→wpAny (model pw_pc0148_01 w) c.A (execs (L83 6) c.env) Q E s'):wpAny (model pw_pc0148_01 w) c.A (execs (L83 5) c.env) Q E s:=by
 have hX:RXm (RX1 tis):=λ c=>rx_m _ _ c
 have e:=t83_5
 rw [e]
 have HB:=baseL (w:=w) (p:=p) (loose:=loose) (mg:=mg) (mb:=mb)
 obtain ⟨r,nm,junk,hrun⟩:=resS1_ex (r_stm (loc5 a W T l (smW j) (smT j) 1) h0 j hj)
 have g:=g_smT j hj
 have gA1:gA (.tup [.tup (smT j)])=true:=zxx g.1 rfl
 have gD:(dA (.tup [.tup (smT j)])).depth≤100:=by
  rw [d_tup,dAs_cons,d_tup,dAs_nil]
  omega
 refine zq7 (ad:=[x,z]) (RX:=RX1 tis) (σ':=⟨loc5 a W T l (smW j) (smT j) 1,h0::.rdr 0 (smW j).length r nm::junk⟩) (sd_if0 hX (sd_or2 (σ₁:=⟨loc5 a W T l (smW j) (smT j) 1,h0::.rdr 0 (smW j).length r nm::junk⟩) hX
  (sd_tcmp (σ₁:=⟨loc5 a W T l (smW j) (smT j) 1,h0::.rdr 0 (smW j).length r nm::junk⟩) (σ₂:=⟨loc5 a W T l (smW j) (smT j) 1,h0::.rdr 0 (smW j).length r nm::junk⟩) (a:=.tup [.tup (smT j)]) (b:=.tup [.tup (smT j)]) hX rfl ?_ ?_ ?_) ?_)) λ s' ad' own tb fz' m' _ hf I'=>k s' ad' own tb fz' m' _ _ hf I'
 ·refine zxh (fa:=.gref 729) (as:=[.hnd 1]) hX HB.FA HB.FC C.Y I (C.gl (by decide)) (by decide) (glob_stm true) (by kernel_rfl) rfl (λ s' ad' own tb fz' m _ _ I'=>zxm hX rfl (zzv HB.FA C.Y I' (C.loc (by decide)) (by decide) rfl) λ s' ad' own tb fz' m _ _ I'=>zx0 I') ?_
  intro vf vs ad' own tb fz' m s' _ _ I' h1 h2
  replace h1:=h1.inv;cases h1
  have:=((zq8 HB 100 c (C.Y.le (by decide))).C fr (.gref 729) 729 [.hnd 1] _ _ _ _ _ _ _ _ I' (.gref 729) h2 rfl).call
  rw [hrun] at this
  exact this
 ·intro s' ad' own tb fz' m _ _ I'
  have:=(zq8 HB 10 c (C.Y.le (by decide))).E fr (.Tuple [.Name "small" ⟨587,35,587,40⟩] 0 ⟨587,34,587,42⟩) _ _ _ _ _ _ _ I'
  rw [C.sc] at this
  exact (run_sm true (.gref a) (.hnd 0) (.tup T) (.int l) (.tup (W.map .str)) (.tup ((smW j).map .str)) (.hnd 1) (smT j) _ 0 ⟨587,35,587,40⟩ ⟨587,34,587,42⟩)▸this
 ·intro va vb s' ad' own tb fz' m _ _ I' ha hb
  exact sd_same C.Y I' gA1 gD ha hb
 ·intro s' ad' own tb fz' m hp _ I'
  refine sd_tcmp (σ₁:=⟨loc5 a W T l (smW j) (smT j) 1,h0::.rdr 0 (smW j).length r nm::junk⟩) (σ₂:=⟨loc5 a W T l (smW j) (smT j) 1,h0::.rdr 0 (smW j).length r nm::junk⟩) (a:=.off 1 0 (smW j).length) (b:=.int (Int.ofNat ((smW j).map AV.str).length)) hX rfl ?_ ?_ ?_
  ·have:=(zq8 HB 10 c (C.Y.le (by decide))).E fr (.Attribute (.Name "reader" ⟨587,46,587,52⟩) "at" ⟨587,46,587,55⟩) _ _ _ _ _ _ _ I'
   rw [C.sc] at this
   exact (run_at1 true (.gref a) (.hnd 0) (.tup T) (.int l) (.tup (W.map .str)) (.tup ((smW j).map .str)) (.tup (smT j)) h0 0 (smW j).length r nm junk ⟨587,46,587,52⟩ ⟨587,46,587,55⟩)▸this
  ·intro s' ad' own tb fz' m _ _ I'
   exact sd_lenT (x := "some") hX HB.FA HB.FC (zjd true) C.Y I' (C.loc (by decide)) (by decide) (C.gl (by decide)) rfl (zqs _) (by have:=len_sm j;rw [List.length_map];omega)
  ·intro va vb s' ad2 own tb fz' m hp2 _ I' ha hb
   replace ha:=ha.inv;cases ha with | off t hx=>
   have hzz:=(hp.trans hp2).get (i:=1) (x:=z) rfl
   rw [hzz] at hx
   cases hx
   replace hb:=hb.inv;cases hb
   refine PyProof.Rows.ne_int ?_
   have e:((((z.z 0 + (smW j).length:Nat):Int) != Int.ofNat ((smW j).map AV.str).length):Bool)=false:=by
    rw [hz,Nat.zero_add,List.length_map];simp
   rw [e]
   exact .mk I' (by exact rfl)
end
end
section
noncomputable def TE (l:List Str) (n:Nat):Prop:=l[n]? = some zjh∨l[n]? = some zqj
theorem zzr {a b:List Str}{n:Nat}(h:TE (a++b) n):(TE a n∧(a++b).take (n + 1)=a.take (n + 1))∨∃ k,TE b k∧(a++b).take (n + 1)=a++b.take (k + 1):=by
 by_cases hn:n < a.length
 ·left
  unfold TE at h
  rw [List.getElem?_append_left hn] at h
  exact ⟨h,by rw [List.take_append,show n + 1 - a.length=0 by omega];simp⟩
 ·right
  unfold TE at h
  rw [List.getElem?_append_right (by omega)] at h
  refine ⟨n - a.length,h,?_⟩
  rw [List.take_append,List.take_of_length_le (by omega),show n + 1 - a.length=n - a.length + 1 by omega]
theorem te_no {a:List Str}(h:(a.all λ x=>x != zjh && x != zqj)=true) {n:Nat}:¬ TE a n:=by
 rintro (q | q)
 ·have:=List.all_eq_true.mp h _ (List.mem_of_getElem? q)
  revert this;decide
 ·have:=List.all_eq_true.mp h _ (List.mem_of_getElem? q)
  revert this;decide
theorem te_cons {x:Str}{b:List Str}{n:Nat}(hx:(x != zjh && x != zqj)=true) (h:TE (x::b) n):∃ k,TE b k∧(x::b).take (n + 1)=x::b.take (k + 1):=by
 rcases zzr (a:=[x]) h with ⟨h,_⟩ | h
 ·exact absurd h (te_no (by simpa using hx))
 ·exact h
theorem te_one {x:Str}{n:Nat}(h:TE [x] n):n=0:=by
 cases n with
 | zero=>rfl
 | succ n=>rcases h with h | h<;>simp at h
theorem no_c (c n:Nat):¬ TE (cW c) n:=by
 refine te_no ?_
 unfold cW
 split<;>decide
theorem no_sm (c n:Nat):¬ TE (smW c) n:=by
 refine te_no ?_
 unfold smW
 split<;>decide
theorem no_ends (k n:Nat):¬ TE (ends k) n:=by
 refine te_no ?_
 rw [List.all_eq_true]
 intro x hx
 have:=List.eq_of_mem_replicate hx
 subst this;decide
theorem te_t {t n:Nat}(h:TE (thW t) n):t=0∧(thW t).take (n + 1)=[zjh]:=by
 unfold thW at h ⊢
 split at h
 ·exact ⟨rfl,by have:=te_one h;subst this;rfl⟩
 ·rcases h with h | h<;>simp at h
theorem te_tail {cl:Bool}{k n:Nat}:¬ TE (match cl with | true=>ends k | false=>[]) n:=by
 cases cl
 ·rintro (h | h)<;>simp at h
 ·exact no_ends k n
theorem te_s {x:Str}{b:List Str}{k:Nat}(h:TE (x::b) (k + 1)):TE b k:=h
mutual
theorem pfS_of:∀ (s:Sx) (n:Nat),okS s→TE (owS s) n→PfS s ((owS s).take (n + 1))
 | .sm j,n,_,h=>absurd h (no_sm j n)
 | .iff c t y cl,n,ok,h=>by
  have ok:c < 4∧t < 2∧okB y:=by unfold okS at ok;exact ok
  unfold owS at h ⊢
  obtain ⟨k,h,e⟩:=te_cons (by decide) h
  rw [e]
  rcases zzr h with ⟨h,_⟩ | ⟨k,h,e⟩
  ·exact absurd h (no_c _ _)
  rw [e]
  rcases zzr h with ⟨h,e⟩ | ⟨k,h,e⟩
  ·obtain ⟨rfl,e2⟩:=te_t h
   rw [e,e2]
   exact .th
  rw [e]
  rcases zzr h with ⟨h,e⟩ | ⟨k,h,_⟩
  ·rw [e]
   exact .y (pfB_of y _ ok.2.2 h)
  ·exact absurd h te_tail
 | .ife c t y m cl,n,ok,h=>by
  have ok:c < 4∧t < 2∧okB y∧okB m:=by unfold okS at ok;exact ok
  unfold owS at h ⊢
  obtain ⟨k,h,e⟩:=te_cons (by decide) h
  rw [e]
  rcases zzr h with ⟨h,_⟩ | ⟨k,h,e⟩
  ·exact absurd h (no_c _ _)
  rw [e]
  rcases zzr h with ⟨h,e⟩ | ⟨k,h,e⟩
  ·obtain ⟨rfl,e2⟩:=te_t h
   rw [e,e2]
   exact .the
  rw [e]
  rcases zzr h with ⟨h,e⟩ | ⟨k,h,e⟩
  ·rw [e]
   exact .ye (pfB_of y _ ok.2.2.1 h)
  rw [e]
  rcases zzr h with ⟨h,_⟩ | ⟨k,h,e⟩
  ·exact absurd h (no_ends _ _)
  rw [e,← List.append_assoc (owB y),closeB y ok.2.2.1]
  cases k with
  | zero=>exact .el
  | succ k=>
  have h:=te_s h
  rw [List.take_succ_cons]
  rcases zzr h with ⟨h,e⟩ | ⟨k,h,_⟩
  ·rw [e]
   exact .no (pfB_of m _ ok.2.2.2 h)
  ·exact absurd h te_tail
theorem pfB_of:∀ (y:Bx) (n:Nat),okB y→TE (owB y) n→PfB y ((owB y).take (n + 1))
 | .one s,n,ok,h=>.one (pfS_of s n (by unfold okB at ok;exact ok) h)
 | .two s s',n,ok,h=>by
  have ok:okS s∧okS s'∧zxd s=0:=by unfold okB at ok;exact ok
  unfold owB at h ⊢
  have hc:=closeS s ok.1
  rw [ok.2.2] at hc
  have hc:owS s=cwS s:=by simpa [ends] using hc
  rcases zzr h with ⟨h,e⟩ | ⟨k,h,e⟩
  ·rw [e]
   exact .fst (pfS_of s n ok.1 h)
  ·rw [e,hc]
   exact .snd (pfS_of s' k ok.2.1 h)
end
end
section
noncomputable def zqq (l:List Str):Prop:=∃ x,l.getLast? = some x∧x≠zjh∧x≠zqj
theorem zqq.app {a b:List Str}(h:zqq b):zqq (a++b):=by
 obtain ⟨x,h1,h2⟩:=h
 exact ⟨x,by rw [List.getLast?_append,h1];rfl,h2⟩
theorem zqq.cons {y:Str}{b:List Str}(h:zqq b):zqq (y::b):=zqq.app (a:=[y]) h
theorem last_ends (n:Nat):zqq (ends (n + 1)):=⟨endW,by simp [ends,List.getLast?_replicate],by decide,by decide⟩
theorem last_sm:∀ j,j < 9→zqq (smW j)
 | 0,_=>⟨"P-1",by decide,by decide,by decide⟩
 | 1,_=>⟨"S-1",by decide,by decide,by decide⟩
 | 2,_=>⟨"A",by decide,by decide,by decide⟩
 | 3,_=>⟨"C",by decide,by decide,by decide⟩
 | 4,_=>⟨")",by decide,by decide,by decide⟩
 | 5,_=>⟨"C",by decide,by decide,by decide⟩
 | 6,_=>⟨"EXIT",by decide,by decide,by decide⟩
 | 7,_=>⟨"PROGRAM",by decide,by decide,by decide⟩
 | 8,_=>⟨"RUN",by decide,by decide,by decide⟩
 | k + 9,h=>absurd h (by omega)
mutual
theorem last_S:∀ s,okS s→zqq (owS s)
 | .sm j,h=>last_sm j h
 | .iff c t y true,h=>by
  have h:c < 4∧t < 2∧okB y:=h
  have e:owS (.iff c t y true)=("IF":Str)::(cW c++(thW t++(owB y++ends (zqy y + 1)))):=by unfold owS;rfl
  rw [e]
  refine (zqq.app (zqq.app ?_)).cons
  exact (last_ends _).app
 | .iff c t y false,h=>by
  have h:c < 4∧t < 2∧okB y:=h
  have e:owS (.iff c t y false)=("IF":Str)::(cW c++(thW t++(owB y++[]))):=by unfold owS;rfl
  rw [e]
  refine (zqq.app (zqq.app ?_)).cons
  rw [List.append_nil];exact last_B y h.2.2
 | .ife c t y n true,h=>by
  have h:c < 4∧t < 2∧okB y∧okB n:=h
  have e:owS (.ife c t y n true)=("IF":Str)::(cW c++(thW t++(owB y++(ends (zqy y)++(zqj::(owB n++ends (zqy n + 1))))))):=by unfold owS;rfl
  rw [e]
  refine (zqq.app (zqq.app (zqq.app (zqq.app (zqq.cons ?_))))).cons
  exact (last_ends _).app
 | .ife c t y n false,h=>by
  have h:c < 4∧t < 2∧okB y∧okB n:=h
  have e:owS (.ife c t y n false)=("IF":Str)::(cW c++(thW t++(owB y++(ends (zqy y)++(zqj::(owB n++[])))))):=by unfold owS;rfl
  rw [e]
  refine (zqq.app (zqq.app (zqq.app (zqq.app (zqq.cons ?_))))).cons
  rw [List.append_nil];exact last_B n h.2.2.2
theorem last_B:∀ b,okB b→zqq (owB b)
 | .one s,h=>by
  have e:owB (.one s)=owS s:=by unfold owB;rfl
  rw [e];exact last_S s h
 | .two s s',h=>by
  have h:okS s∧okS s'∧zxd s=0:=h
  have e:owB (.two s s')=owS s++owS s':=by unfold owB;rfl
  rw [e];exact (last_S s' h.2.1).app
end
theorem te_lt {s:Sx}{n:Nat}(hs:okS s) (h:TE (owS s) n):n + 1 < (owS s).length:=by
 obtain ⟨x,h1,h2,h3⟩:=last_S s hs
 have hn:n < (owS s).length:=by
  rcases h with h | h<;>exact (List.getElem?_eq_some_iff.mp h).1
 by_cases q:n + 1 < (owS s).length
 ·exact q
 ·have e:n=(owS s).length - 1:=by omega
  rw [List.getLast?_eq_getElem?,← e] at h1
  rcases h with h | h<;>rw [h1] at h<;>cases h
  ·exact absurd rfl h2
  ·exact absurd rfl h3
theorem adjust_to (b n:Nat) (hb:b≤n):Builtin.Slice.sliceAdjust none (some (b:Int)) 1 (n:Int)=(0,(b:Int)):=by
 unfold Builtin.Slice.sliceAdjust
 have h1:¬ ((1:Int) < 0):=by omega
 have h2:¬ ((b:Int) < 0):=by omega
 simp only [h1,h2,if_false]
 congr 1
 omega
theorem places_to (b:Nat):Builtin.Slice.slicePlaces 0 (b:Int) 1=b:=by
 unfold Builtin.Slice.slicePlaces
 have h1:(1:Int) > 0:=by omega
 simp only [h1,if_true,Int.ediv_one]
 split<;>omega
section
variable {prog:Program}{w:World}{A:Around}{E:Value→Shared→Prop}{s:Shared}{h₀:Heap}{L:Addr}{m:Str→Option Value}{news:List (Addr × Obj)}
theorem zkf {sl:Addr}{b n:Nat}{u:Tok}{Q:Int × Int × Nat→Shared→Prop}(hs:s.heap.IsSliceOf sl .none (.int b u) .none) (hb:b≤n) (h:Q (0,1,b) s) :
  wpAny (model prog w) A (Builtin.Slice.sliceApplied (.ref sl) (pure (n:Int))) Q E s:=by
 obtain ⟨os,hos,hcs,hds⟩:=id hs
 unfold Builtin.Slice.sliceApplied Builtin.Slice.sliceFields
 refine wpAny_bind (wpAny_bind (wpAny_field hos hds (x:=.none) rfl (wpAny_bind (wpAny_field hos hds (x:=.int b u) rfl (wpAny_bind (wpAny_field hos hds (x:=.none) rfl (wpAny_pure ?_)))))))
 refine wpAny_bind (slicePart_none ?_)
 show wpAny _ _ (if ((1:Int) == 0)=true then _ else _) _ _ s
 rw [if_neg (by decide)]
 refine wpAny_bind (slicePart_none (wpAny_bind (slicePart_int (wpAny_bind (wpAny_pure ?_)))))
 show wpAny _ _ (match Builtin.Slice.sliceAdjust none (some (b:Int)) 1 (n:Int) with | (lo,hi)=>pure (lo,(1:Int),Builtin.Slice.slicePlaces lo hi 1)) _ _ s
 rw [adjust_to b n hb]
 show wpAny _ _ (pure ((0:Int),(1:Int),Builtin.Slice.slicePlaces 0 (b:Int) 1)) _ _ s
 rw [places_to b]
 exact wpAny_pure h
theorem pick_to (xs:Array Value) (b:Nat) (_hb:b≤xs.size):((List.range b).filterMap λ (k:Nat)=>xs[((0:Int) + (k:Int) * 1).toNat]?).toArray=(xs.toList.take b).toArray:=by
 have e:(λ (k:Nat)=>xs[((0:Int) + (k:Int) * 1).toNat]?)=λ k=>xs[0 + k]?:=by
  funext k
  have:((0:Int) + (k:Int) * 1).toNat=0 + k:=by omega
  rw [this]
 rw [e]
 have:=pick_run xs 0 b
 rw [List.filterMap_map] at this
 have e2:((λ x=>xs[x]?) ∘ λ x=>0 + x)=λ k=>xs[0 + k]?:=rfl
 rw [e2] at this
 rw [this]
 rfl
theorem zj7 {t sl:Addr}{items:Array Value}{b:Nat}{u:Tok}{Q:Value→Shared→Prop}(ht:IsTup s.heap t items) (hs:s.heap.IsSliceOf sl .none (.int b u) .none) (hb:b < items.size)
  (h:Q (.ref s.heap.objs.size) { s with heap:=s.heap.push { cls:=.type "tuple",data:=.seq (items.toList.take b).toArray } })
  (hsz:items.size≤sizeLine:=by size_fits):wpAny (model prog w) A (getItem (.ref t) (.ref sl)) Q E s:=by
 have hdrop:sizeOk (.seq (items.toList.take b).toArray):=by
  show (items.toList.take b).toArray.size≤sizeLine
  rw [List.size_toArray,List.length_take,Array.length_toList]
  omega
 obtain ⟨os,hos,hcs,hds⟩:=id hs
 have hTs:s.TypeIs (.ref sl) "slice" := ⟨os,hos,hcs⟩
 unfold getItem
 try with_reducible refine wpAny_holding ?_
 first | refine wpAny_bind (wpAny_pure ?_) | skip
 refine wpAny_bind (wpAny_sequenceKey ht.typeIs (by decide) ?_)
 refine wpAny_bind (wpAny_callSpecial?_slot (name:=Str.ofString "__getitem__") ht.typeIs slot_tuple_getitem
  (wpAny_call_entry slot_tuple_getitem ht.typeIs entry_tuple_getitem ?_ (args_tuple_getitem _ _)))
 show wpAny _ _ (Builtin.Tuple.tupleItemsOf (.ref t) >>= _) _ _ s
 refine wpAny_bind (tupleItemsOf_ ht ?_)
 refine wpAny_bind (wpAny_typeOf hTs ?_)
 rw [if_pos (by decide)]
 refine wpAny_bind (zkf hs (Nat.le_of_lt hb) ?_)
 have hno:¬ (((0:Int) == 0 && (1:Int) == 1 && b == items.size)=true):=by
  have:(b == items.size)=false:=by rw [beq_eq_false_iff_ne];omega
  rw [this];simp
 show wpAny _ _ (if ((0:Int) == 0 && (1:Int) == 1 && b == items.size)=true then _ else _) _ _ s
 rw [if_neg hno,pick_to items b (Nat.le_of_lt hb)]
 first
  | exact wpAny_bind (m:=Builtin.Tuple.tupleExact _) (wpAny_newObj_type (wpAny_pure ⟨_,rfl,wpAny_pure h⟩) hdrop)
  | exact wpAny_bind (m:=Builtin.Tuple.tupleExact _) (wpAny_newObj_type (wpAny_bind (wpAny_pure (wpAny_pure ⟨_,rfl,wpAny_pure h⟩))) hdrop)
  | exact wpAny_bind (wpAny_bind (m:=Builtin.Tuple.tupleExact _) (wpAny_newObj_type (wpAny_pure (wpAny_pure ⟨_,rfl,wpAny_pure h⟩)) hdrop))
  | exact wpAny_bind (wpAny_bind (m:=Builtin.Tuple.tupleExact _) (wpAny_newObj_type (wpAny_pure ⟨_,rfl,wpAny_pure h⟩) hdrop))
theorem zkx {value slice:PySem.Expr}{t:Addr}{items:Array Value}{b:Nat}{u:Tok}{Q:Value→Shared→Prop}
  (F:Fr h₀ L s.heap m) (N:News h₀ L s.heap news) (ht:IsTup s.heap t items) (hb:b < items.size)
  (h:∀ h',Fr h₀ L h' m→News h₀ L h' ((s.heap.objs.size + 1,{ cls:=.type "tuple",data:=.seq (items.toList.take b).toArray })::news)→Q (.ref (s.heap.objs.size + 1)) { s with heap:=h' })
  (hs:subscripted slice false (.ref t) (.ref s.heap.objs.size)=operate [.ref s.heap.objs.size,.ref t] (getItem (.ref t) (.ref s.heap.objs.size)):=by with_unfolding_all rfl)
  (hg:∀ r,letTemporaryGo value (.ref t) r=pure ():=by intro _;with_unfolding_all rfl)
  (hsz:items.size≤sizeLine:=by size_fits) :
  wpAny (model prog w) A (subscriptTail value slice (.ref t) (.ref s.heap.objs.size)) Q E { s with heap:=s.heap.push { cls:=.type "slice",data:=.fields #[.none,.int b u,.none] } }:=by
 have ht':IsTup (s.heap.push { cls:=.type "slice",data:=.fields #[.none,.int b u,.none] }) t items:=ht.keeps λ _ _ e=>Heap.get?_push_of_some _ e
 refine subscriptTail_ops (s:={ s with heap:=s.heap.push { cls:=.type "slice",data:=.fields #[.none,.int b u,.none] } }) ht'.typeIs slot_tuple_getitem.lookup
  (zj7 ht' (Heap.IsSliceOf.new ..) hb ?_ hsz) hs hg
 have N1:=News.push (F.push { cls:=.type "slice",data:=.fields #[.none,.int b u,.none] }) (N.grown λ _ _ e=>Heap.get?_push_of_some _ e) { cls:=.type "tuple",data:=.seq (items.toList.take b).toArray }
 rw [Heap.size_push] at N1
 show Q (.ref (s.heap.push _).objs.size) _
 rw [Heap.size_push]
 exact h _ ((F.push _).push _) N1
end
end
section
section
variable {prog:Program}{w:World}{K:Frag}{ti:List TabI}{fr:Led}{U:SubP}{c:Cx}{RX:Cx→Led→Int→Value→Shared→Prop}{O:Out}{P:Params}
 {σ σ':St}{ad:List Ad}{own tb fz:Led}{m:Str→Option Value}{s:Shared}{p:Program}{loose:List Str}{mg mb:Str→Option Value}
noncomputable def LocP (loc loc':List (Str × AV)):Prop:=∀ ad n a',zqn n loc'=some a'→∃ a,zqn n loc=some a∧HdF ad [] a a'
theorem Inv.dropHo {loc loc':List (Str × AV)}{ho:List HO}(I:Inv U K P ti fr c ⟨loc,ho⟩ ad own tb fz m s) (h:LocP loc loc'):Inv noU K P ti fr c ⟨loc',[]⟩ [] [] tb (own++fz) m s:=by
 have pm:(([]:Led)++(tb++(fr++(own++fz)))).Perm (own++(tb++(fr++fz))):=by
  show (tb++(fr++(own++fz))).Perm _
  have e1:tb++(fr++(own++fz))=((tb++fr)++own)++fz:=by simp
  have e2:own++(tb++(fr++fz))=(own++(tb++fr))++fz:=by simp
  rw [e1,e2]
  exact List.Perm.append_right _ List.perm_append_comm
 have hs:fz⊆own++fz:=List.subset_append_right _ _
 exact ⟨I.F,λ q hq=>I.N q (pm.mem_iff.mp hq),(pm.map _).nodup_iff.mpr I.nd,.nil,I.tb.mono hs,(I.lo.map (h ad)).mono .refl hs,I.og⟩
theorem Inv.dropTb {loc:List (Str × AV)}(I:Inv U K P ti fr c ⟨loc,[]⟩ [] [] tb fz m s):Inv U K P [] fr c ⟨loc,[]⟩ [] [] [] (tb++fz) m s∧GrT ti (tb++fz):=by
 have pm:(([]:Led)++([]++(fr++(tb++fz)))).Perm ([]++(tb++(fr++fz))):=by
  show (fr++(tb++fz)).Perm (tb++(fr++fz))
  rw [← List.append_assoc fr,← List.append_assoc tb]
  exact List.Perm.append_right _ List.perm_append_comm
 have hs:fz⊆tb++fz:=List.subset_append_right _ _
 exact ⟨⟨I.F,λ q hq=>I.N q (pm.mem_iff.mp hq),(pm.map _).nodup_iff.mpr I.nd,.nil,.nil,I.lo.mono .refl hs,I.og⟩,tb,I.tb.gt,List.subset_append_left _ _⟩
theorem VRs.take {l:List AV}{vs:List Value}(hp:zqc l=true) (q:VRs K P ad fz l vs) (b:Nat):VRs K P ad fz (l.take b) (vs.take b):=by
 refine q.rec1 (M:=λ l vs=>zqc l=true→∀ b,VRs K P ad fz (l.take b) (vs.take b)) (λ _ b=>by rw [List.take_nil,List.take_nil];exact .nil) (λ h _ i e b=>?_) (λ _ _ _ _ _ e=>?_) hp b
 ·rw [zxi h.notSp] at e
  exact Nat.casesOn b .nil λ b=>.cons h (i e b)
 ·exact zzb e
theorem sd_cut {k:Nat}{x:Str}{l:List AV}{b:Nat}{lo:PySem.Expr}{p1 p2 p3:Pos}(Y:Ok p loose mg mb K c k) (I:Inv U K w.params ti fr c σ ad own tb fz m s) (hk:zqt c.sc x=true) (hd:(x == ("__debug__":Str))=false)
  (hl:zqn x σ.loc=some (.tup l)) (hp:zqc l=true) (hsz:l.length≤100000) (hb:b < l.length) (hi:∀ ad own tb fz m s,Inv U K w.params ti fr c σ ad own tb fz m s→Sd (model prog w) U K w.params ti fr RX c ad fz (VR K w.params) (eval lo c.env) (ok (.int (b:Int)) σ) s) :
  Sd (model prog w) U K w.params ti fr RX c ad fz (VR K w.params) (eval (.Subscript (.Name x p1) (.Slice none (some lo) none p2) p3) c.env) (ok (.tup (l.take b)) σ) s:=by
 show wpAny _ _ _ _ _ _
 rw [eval_Subscript]
 obtain ⟨v,h1,h2⟩:=(I.lo x (.tup l) hl).1 (zqf hk)
 refine wpAny_bind (nameX_L I.F h1 (wpAny_bind (wpAny_holding (wpAny_Slice ?_))) Y.kf (zqf hk) hd)
 rw [evalPart_none]
 refine wpAny_pure ?_
 rw [evalPart_some]
 refine wpAny_mono (hi _ _ _ _ _ _ I) (λ bv s₁ h=>?_) λ _ _ h=>h.elim
 obtain ⟨ad₁,own₁,tb₁,fz₁,m₁,hp₁,hf₁,I₁,hbv⟩:=h
 refine hbv.qInt rfl λ t=>?_
 refine wpAny_pure (wpAny_bind (wpAny_standAt ?_))
 refine (h2.mono hp₁ hf₁).qTup rfl λ {vs a n dd sl} g1 g2=>?_
 have hlen:=g2.plain hp
 have ht:IsTup s₁.heap a vs.toArray:=zql I₁ Y.X g1
 obtain ⟨hp',gs,dr,tk,os⟩:=s₁
 refine zkx I₁.F I₁.N ht (by simp;omega) (λ h' F' N'=>?_) (hsz:=by rw [sizeLine_eq];simp;omega)
 have hn:∀ q∈own₁++(tb₁++(fr++fz₁)),q.1 < hp'.objs.size + 1:=λ q hq=>Nat.lt_succ_of_lt (I₁.lt q hq)
 have I₂:=I₁.newOf F' N' hn tk
 exact ⟨ad₁,own₁,tb₁,_,m₁,hp₁,λ _ h=>.tail _ (hf₁ h),I₂,VR.tup (vs:=vs.take b) (dd:=none) (sl:=#[]) (.inl (.head _)) ((VRs.take hp g2 b).mono .refl λ _ h=>.tail _ h)⟩
end
end
section
theorem t83_7:L83 7=(by refine' (?f:∀ s r,(topD 83).2.2.1.drop 7=s::r→Stmt) _ _ ?h;exact λ s _ _=>s;case h=>conv=>lhs;whnf)::L83 8:=by unfold L83;rfl
theorem glob_draw (b:Bool):(outL b).glob "_law_draw" = some (.gref 648):=by kernel_rfl
theorem fn648' (b:Bool):(outL b).fn 648=some ⟨["source", "limit"],[],(topD 66).2.2.1,(topD 66).2.2.2⟩:=by kernel_rfl
noncomputable abbrev loc8 (W:List Str) (k:Nat):List (Str × AV):=[("words",.tup (W.map .str)),("at",.int (Int.ofNat k))]
noncomputable abbrev loc9 (W:List Str) (k:Nat) (V:List Str):List (Str × AV):=[("words",.tup (W.map .str)),("at",.int (Int.ofNat k)),("odd",.tup (V.map .str))]
section
variable {w:World}{p:Program}{loose:List Str}{mg mb:Str→Option Value}{c:Cx}{fr:Led}{ad:List Ad}{own tb fz:Led}{m:Str→Option Value}{s:Shared}{Q:Flow→Shared→Prop}{E:Value→Shared→Prop}{rest:List Stmt}
theorem zxw {n x:Str}{a a':AV}{l:List (Str × AV)}(h:zqn n ((x,a)::l)=some a'):(n=x∧a'=a)∨zqn n l=some a':=by
 revert h
 show cd (sB x n) (some a) (zqn n l)=some a'→_
 cases q:sB x n with
 | true=>exact λ h=>.inl ⟨(zqo.mp q).symm,(Option.some.inj h).symm⟩
 | false=>exact .inr
theorem law_S7 (C:LawC w p loose mg mb c) {a:Addr}{W V:List Str}{T T':List AV}{l:Int}{k:Nat}{ho:List HO}{r:List Tape}(hW:W.length≤2000) (I:IL w p loose mg mb fr c (loc5 a W T l V T' 1) (.src (.draw (Int.ofNat W.length) (Int.ofNat k)::r)::ho) ad own tb fz m s)
  (kk:∀ s' tb fz' m',fz⊆fz'→Inv noU (KF w.params) w.params tis fr c ⟨loc8 W k,[]⟩ [] [] tb fz' m' s'→wpAny (model pw_pc0148_01 w) c.A (execs (L83 7) c.env) Q E s'):wpAny (model pw_pc0148_01 w) c.A (execs (L83 6) c.env) Q E s:=by
 have hX:RXm (RX1 tis):=λ c=>rx_m _ _ c
 have e:=s83_6
 rw [e]
 have HB:=baseL (w:=w) (p:=p) (loose:=loose) (mg:=mg) (mb:=mb)
 refine zq7 (zjy (a:=.int (Int.ofNat k)) (σ':=⟨loc5 a W T l V T' 1,.src r::ho⟩) (q:=⟨589,4,589,6⟩) (pos:=⟨589,4,589,38⟩) hX C.kf (C.loc (by decide)) rfl
  (zxh (fa:=.gref 648) (as:=[.hnd 0,.int (Int.ofNat W.length)]) (σ₁:=⟨loc5 a W T l V T' 1,.src (.draw (Int.ofNat W.length) (Int.ofNat k)::r)::ho⟩) hX HB.FA HB.FC C.Y I (C.gl (by decide)) (by decide) (glob_draw true) (by kernel_rfl) rfl
   (λ s' ad' own tb fz' m _ _ I'=>zxm hX rfl (zzv HB.FA C.Y I' (C.loc (by decide)) (by decide) rfl) λ s' ad' own tb fz' m _ _ I'=>zxm hX rfl ?_ λ s' ad' own tb fz' m _ _ I'=>zx0 I')
   λ vf vs ad' own tb fz' m s' _ _ I' h1 h2=>?_)) λ s' ad' own tb fz' m' _ hf I'=>?_
 ·have:=sd_lenT (x := "words") (p1:=⟨589,27,589,30⟩) (p2:=⟨589,31,589,36⟩) (p3:=⟨589,27,589,37⟩) (prog:=pw_pc0148_01) hX HB.FA HB.FC (zjd true) C.Y I' (C.loc (by decide)) (by decide) (C.gl (by decide)) rfl (zqs W) (by rw [List.length_map];omega)
  rw [List.length_map] at this
  exact this
 ·replace h1:=h1.inv;cases h1
  exact (prim_draw (n:=600) (O:=out) hX zz6 HB.FA (zjd true) (HB.FC.fn _ _ (fn648' true)) (C.Y.le (by decide)) I' (i:=0) rfl h2).call
 ·refine kk s' tb (own++fz') m' (λ _ h=>List.mem_append_right _ (hf h)) (I'.dropHo λ ad n a' h=>?_)
  rcases zxw h with ⟨rfl,rfl⟩ | h
  ·exact ⟨_,rfl,λ K P fz v x=>zxz _ x⟩
  ·rcases zxw h with ⟨rfl,rfl⟩ | h
   ·exact ⟨_,rfl,HdF.pure (Pure.int _)⟩
   ·exact nn h
theorem heard_is (P:Params):nsIn (KF P) mainGlobals "_law_heard" = some (some (.ref 708)):=by kernel_rfl
theorem read_is (P:Params):nsIn (KF P) mainGlobals "_law_read" = some (some (.ref 722)):=by kernel_rfl
theorem heard_call (C:LawC w p loose mg mb c) {D:Nat}{ti:List TabI}{x:Str}{ws:List Str}{loc:List (Str × AV)}{ix:Int}{r1 r2 r3 r4:Pos}(hx:zqt c.sc x=true) (hd:(x == ("__debug__":Str))=false) (hl:zqn x loc=some (.tup (ws.map .str)))
  (hR:zj8 w p loose mg mb ti D (.gref 722) (zqa 0 ws) [tokW "." (0 + ws.length)] (.inr ix)) (hD:111≤D) (hD2:D + 1≤620) (hv:∀ x∈ws,x∈voc) (hlen:ws.length≤2000) (I:Inv noU (KF w.params) w.params ti fr c ⟨loc,[]⟩ [] [] tb fz m s) :
  wpAny (model pw_pc0148_01 w) c.A (eval (.Call (.Name "_law_heard" r1) [.Name x r2,.Name "_law_read" r3] [] r4) c.env) (λ u s'=>OkT noU (KF w.params) w.params ti fr c [] fz m (.int (ix - 1)) ⟨loc,[]⟩ u s') (λ _ _=>False) s:=by
 have FC:=(baseN (w:=w) (p:=p) (loose:=loose) (mg:=mg) (mb:=mb) 0 ti).FC
 obtain ⟨v,hv1,hv2⟩:=(I.lo x _ hl).1 (zqf hx)
 rw [arm_eval_Call_Name']
 refine wpAny_bind (nameX_K I.F C.Y.X C.Y.T (heard_is _) ?_ C.kf (zxj (C.gl (by decide))) (by decide))
 refine zzp rfl ?_
 rw [zqe (e:=.Name _ _) rfl,zqe (e:=.Name _ _) rfl]
 refine spliced_cons (nameX_L I.F hv1 ?_ C.kf (zqf hx) hd)
 refine spliced_cons (nameX_K I.F C.Y.X C.Y.T (read_is _) ?_ C.kf (zxj (C.gl (by decide))) (by decide))
 refine spliced_nil ⟨zxn FC C.Y.X (f:=.gref 708) (by kernel_rfl) I (.gref 708),?_⟩
 refine wpAny_call (codeAny_mono (heard_fx fun722 hR hD (C.Y.le hD2) C.out C.cl C.TB hv hlen I (zxz [] hv2) (.gref 722)) λ r s' z=>?_)
 cases r with
 | error e=>exact z.elim
 | ok f=>cases f<;>first | exact z | exact z.elim
theorem run_te (b:Bool) (W:AV) (k:AV) (p4 p5 p6:Pos) (kk:Nat):(run (outL b) 10).E sc83 (.Tuple [.Constant (.str "THEN") 0 p4,.Constant (.str "ELSE") 0 p5] kk p6) ⟨[("words",W),("at",k)],[]⟩=ok (.tup [.str "THEN",.str "ELSE"]) ⟨[("words",W),("at",k)],[]⟩:=by kernel_rfl
theorem run_end (b:Bool) (W:AV) (k:AV) (q8 q9:Pos) (kk:Nat):(run (outL b) 10).E sc83 (.Tuple [.Constant (.str "END-IF") 0 q8] kk q9) ⟨[("words",W),("at",k)],[]⟩=ok (.tup [.str "END-IF"]) ⟨[("words",W),("at",k)],[]⟩:=by kernel_rfl
theorem run_inc (b:Bool) (W:AV) (k:Int) (q3 q4 q5:Pos):(run (outL b) 10).E sc83 (.BinOp (.Name "at" q3) .Add (.Constant (.int 1) 0 q4) q5) ⟨[("words",W),("at",.int k)],[]⟩=ok (.int (k + 1)) ⟨[("words",W),("at",.int k)],[]⟩:=by kernel_rfl
theorem run_inc2 (b:Bool) (W V:AV) (k:Int) (q3 q4 q5:Pos):(run (outL b) 10).E sc83 (.BinOp (.Name "at" q3) .Add (.Constant (.int 1) 0 q4) q5) ⟨[("words",W),("at",.int k),("odd",V)],[]⟩=ok (.int (k + 1)) ⟨[("words",W),("at",.int k),("odd",V)],[]⟩:=by kernel_rfl
end
end
section
section
variable {w:World}{p:Program}{loose:List Str}{mg mb:Str→Option Value}{c:Cx}{fr:Led}{ad:List Ad}{own tb fz:Led}{m:Str→Option Value}{s:Shared}{Q:Flow→Shared→Prop}{E:Value→Shared→Prop}{rest:List Stmt}
theorem step_if {ti:List TabI}{U:SubP}{RX:Cx→Led→Int→Value→Shared→Prop}{t:PySem.Expr}{b:List Stmt}{pos:Pos}{v:Bool}{σ':St}(h:Sd (model pw_pc0148_01 w) U (KF w.params) w.params ti fr RX c ad fz EqB (isTrue t c.env (eval t c.env)) (ok v σ') s)
  (k0:v=false→∀ s' ad' own tb fz' m',Pre ad ad'→fz⊆fz'→Inv U (KF w.params) w.params ti fr c σ' ad' own tb fz' m' s'→wpAny (model pw_pc0148_01 w) c.A (execs rest c.env) Q E s')
  (k1:v=true→∀ s' ad' own tb fz' m',Pre ad ad'→fz⊆fz'→Inv U (KF w.params) w.params ti fr c σ' ad' own tb fz' m' s'→wpAny (model pw_pc0148_01 w) c.A (execs b c.env) (λ f s''=>match f with | .next=>wpAny (model pw_pc0148_01 w) c.A (execs rest c.env) Q E s'' | f=>Q f s'') E s') :
  wpAny (model pw_pc0148_01 w) c.A (execs (.If t b [] pos::rest) c.env) Q E s:=by
 rw [execs_cons]
 refine wpAny_bind ?_
 rw [exec_If]
 refine wpAny_bind (wpAny_standAt (wpAny_bind (wpAny_mono h (λ v' s' ⟨ad',own,tb,fz',m',a1,a2,a3,a4⟩=>?_) λ _ _ h=>h.elim)))
 cases a4
 cases v with
 | false=>
  show wpAny _ _ (execs [] c.env) _ _ _
  exact wpAny_execs_nil (k0 rfl s' ad' own tb fz' m' a1 a2 a3)
 | true=>
  show wpAny _ _ (execs b c.env) _ _ _
  refine wpAny_mono (k1 rfl s' ad' own tb fz' m' a1 a2 a3) (λ f s'' h=>?_) λ _ _ h=>h
  cases f<;>first | exact h | exact wpAny_pure h
theorem baseI (ti:List TabI):Base pw_pc0148_01 w (KF w.params) ti noU (outL false) p loose mg mb 70:=baseN 0 ti
theorem te_read {x:Sx}{k:Nat}(hx:okS x) (hh:hS x≤7) (h:TE (owS x) k) :
  zj8 w p loose mg mb tis (NN 7 + 20) (.gref 722) (zqa 0 ((owS x).take (k + 1)++[endW])) [tokW "." (0 + ((owS x).take (k + 1)++[endW]).length)] (.inr (0 + ((owS x).take (k + 1)).length + 1)):=by
 have hp:=pfS_of x k hx h
 have hb:=(faultS (w:=w) (p:=p) (loose:=loose) (mg:=mg) (mb:=mb) hp hx).le hh 0 [tokW "." (0 + ((owS x).take (k + 1)++[endW]).length)]
 obtain ⟨y,l',e⟩:∃ y l',(owS x).take (k + 1)++[endW]=y::l':=by
  cases q:(owS x).take (k + 1) with
  | nil=>exact ⟨_,_,rfl⟩
  | cons a b=>exact ⟨_,_,rfl⟩
 rw [e] at hb ⊢
 exact read722 hb λ v e=>by cases e
theorem law_odd (C:LawC w p loose mg mb c) {x:Sx}{k:Nat}(hx:okS x) (hh:hS x≤7) (hlen:(owS x).length≤1900) {wk:Str}(hwk:(owS x)[k]? = some wk) (hin:zxc wk ["THEN", "ELSE"]=true) {q1 q2 q3 q4 q5 q6 q7 q8 q9 q10 q11 r1 r2 r3 r4 r5 r6 r7 r8 r9 r10 r11:Pos}{k2:Nat}(I':Inv noU (KF w.params) w.params tis fr c ⟨loc8 (owS x) k,[]⟩ [] [] tb fz m s)
  (kk:∀ s' fz' m',GrT tis fz'→Inv noU (KF w.params) w.params [] fr c ⟨[],[]⟩ [] [] [] fz' m' s'→wpAny (model pw_pc0148_01 w) c.A (execs (L83 8) c.env) Q E s') :
  wpAny (model pw_pc0148_01 w) c.A (execs [.Assign [.Name "odd" q1] (.BinOp (.Subscript (.Name "words" q2) (.Slice none (some (.BinOp (.Name "at" q3) .Add (.Constant (.int 1) 0 q4) q5)) none q6) q7) .Add (.Tuple [.Constant (.str "END-IF") 0 q8] k2 q9) q10) q11,
   .If (.Compare (.Call (.Name "_law_heard" r1) [.Name "odd" r2,.Name "_law_read" r3] [] r4) [.NotEq] [.BinOp (.Name "at" r5) .Add (.Constant (.int 1) 0 r6) r7] r8) [.Return (some (.Constant (.bool false) 0 r9)) r10] [] r11] c.env)
   (λ f s''=>match f with | .next=>wpAny (model pw_pc0148_01 w) c.A (execs (L83 8) c.env) Q E s'' | f=>Q f s'') E s:=by
 have hX:RXm (RX1 tis):=λ c=>rx_m _ _ c
 have HB:=baseI (w:=w) (p:=p) (loose:=loose) (mg:=mg) (mb:=mb) tis
 have HE:=baseI (w:=w) (p:=p) (loose:=loose) (mg:=mg) (mb:=mb) []
 have hplain:=zqs (owS x)
 have hTE:TE (owS x) k:=by
  have:wk=zjh∨wk=zqj:=by
   change cd (sB "THEN" wk) true (cd (sB "ELSE" wk) true false)=true at hin
   cases q1:sB "THEN" wk with
   | true=>exact .inl (zqo.mp q1).symm
   | false=>
    cases q2:sB "ELSE" wk with
    | true=>exact .inr (zqo.mp q2).symm
    | false=>rw [q1,q2] at hin;exact Bool.noConfusion hin
  rcases this with rfl | rfl
  ·exact .inl hwk
  ·exact .inr hwk
 have hlt:=te_lt hx hTE
 let V:List Str:=(owS x).take (k + 1)++[endW]
 have hV:V.map AV.str=((owS x).map AV.str).take (k + 1)++[.str "END-IF"]:=by
  show ((owS x).take (k + 1)++[endW]).map AV.str=_
  rw [List.map_append,List.map_take];rfl
 have hodd:Sd (model pw_pc0148_01 w) noU (KF w.params) w.params tis fr (RX1 tis) c [] fz (FlR (KF w.params) w.params) (exec (.Assign [.Name "odd" q1] (.BinOp (.Subscript (.Name "words" q2) (.Slice none (some (.BinOp (.Name "at" q3) .Add (.Constant (.int 1) 0 q4) q5)) none q6) q7) .Add (.Tuple [.Constant (.str "END-IF") 0 q8] k2 q9) q10) q11) c.env)
   (ok .next ⟨loc9 (owS x) k V,[]⟩) s:=by
  refine zjy (a:=.tup (V.map .str)) (σ':=⟨loc8 (owS x) k,[]⟩) hX C.kf (C.loc (by decide)) rfl ?_
  rw [hV]
  refine sd_op3 (σ₁:=⟨loc8 (owS x) k,[]⟩) (σ₂:=⟨loc8 (owS x) k,[]⟩) (a:=.tup (((owS x).map AV.str).take (k + 1))) (b:=.tup [.str "END-IF"]) hX (sd_cut (σ:=⟨loc8 (owS x) k,[]⟩) C.Y I' (C.loc (by decide)) (by decide) rfl hplain (by rw [List.length_map];omega) (by rw [List.length_map];omega) ?_) ?_ ?_
  ·intro ad own tb fz m s I'
   have:=(zq8 HB 10 c (C.Y.le (by decide))).E fr (.BinOp (.Name "at" q3) .Add (.Constant (.int 1) 0 q4) q5) _ _ _ _ _ _ _ I'
   rw [C.sc] at this
   exact (run_inc false (.tup ((owS x).map .str)) (Int.ofNat k) q3 q4 q5)▸this
  ·intro s' ad' own tb fz' m hp _ I'
   have:=(zq8 HB 10 c (C.Y.le (by decide))).E fr (.Tuple [.Constant (.str "END-IF") 0 q8] k2 q9) _ _ _ _ _ _ _ I'
   rw [C.sc] at this
   exact (run_end false (.tup ((owS x).map .str)) (.int (Int.ofNat k)) q8 q9 k2)▸this
  ·intro va vb s' ad' own tb fz' m _ _ I' ha hb
   refine sd_bin HB.hM C.Y.X I' ha hb ?_
   have hw:wtA (((owS x).map AV.str).take (k + 1))=k + 1:=by
    rw [← List.map_take,wt_strs,List.length_take];omega
   have hb:Nat.ble (k + 1 + wtA [.str "END-IF"]) 100000=true:=Nat.ble_eq_true_of_le (by show k + 1 + 1≤100000;omega)
   show gd (Nat.ble (wtA (((owS x).map AV.str).take (k + 1)) + wtA [AV.str "END-IF"]) 100000) (some (AV.tup (((owS x).map AV.str).take (k + 1)++[AV.str "END-IF"])))=_
   rw [hw,hb];rfl
 rw [execs_cons]
 refine wpAny_bind (wpAny_mono hodd (λ f s₂ h=>?_) λ _ _ h=>h.elim)
 obtain ⟨ad₂,own₂,tb₂,fz₂,m₂,hp₂,hf₂,I₂,fl₂⟩:=h
 replace fl₂:=fl₂.inv;cases fl₂
 dsimp only
 have ow₂:=I₂.ow
 replace ow₂:=ow₂.inv;cases ow₂
 have hkl:((owS x).take (k + 1)).length=k + 1:=by rw [List.length_take];omega
 have hVl:V.length=k + 2:=by
  show ((owS x).take (k + 1)++[endW]).length=_
  rw [List.length_append,hkl];rfl
 rw [execs_cons]
 refine wpAny_bind ?_
 rw [exec_If]
 refine wpAny_bind (wpAny_standAt (wpAny_bind ?_))
 rw [isTrue_Compare1,markedBehindIn_of_false (zxp rfl)]
 refine wpAny_bind (wpAny_mono (heard_call C (loc:=loc9 (owS x) k V) (ws:=V) (D:=NN 7 + 20) (C.loc (by decide)) (by decide) rfl (te_read hx hh hTE) (by decide) (by decide) (zj3 (λ y hy=>v_owS x hx y (List.mem_of_mem_take hy)) (by decide)) (by rw [hVl];omega) I₂) (λ u s₃ h=>?_) λ _ _ h=>h.elim)
 obtain ⟨ad₃,own₃,fz₃,hp₃,hf₃,G,I₃,hu⟩:=h
 replace hu:=hu.inv;cases hu with | int t=>
 have hinc:Sd (model pw_pc0148_01 w) noU (KF w.params) w.params [] fr (RX1 []) c ad₃ fz₃ (VR (KF w.params) w.params) (eval (.BinOp (.Name "at" r5) .Add (.Constant (.int 1) 0 r6) r7) c.env) (ok (.int (Int.ofNat k + 1)) ⟨loc9 (owS x) k V,[]⟩) s₃:=by
  have:=(zq8 HE 10 c (C.Y.le (by decide))).E fr (.BinOp (.Name "at" r5) .Add (.Constant (.int 1) 0 r6) r7) _ _ _ _ _ _ _ I₃
  rw [C.sc] at this
  exact (run_inc2 false (.tup ((owS x).map .str)) (.tup (V.map .str)) (Int.ofNat k) r5 r6 r7)▸this
 refine wpAny_bind (wpAny_holding (wpAny_mono hinc (λ u2 s₄ h=>?_) λ _ _ h=>h.elim))
 obtain ⟨ad₄,own₄,tb₄,fz₄,m₄,hp₄,hf₄,I₄,hu2⟩:=h
 replace hu2:=hu2.inv;cases hu2
 have ow₄:=I₄.ow
 replace ow₄:=ow₄.inv;cases ow₄
 have tb4:=I₄.tb
 cases tb4
 refine wpAny_bind (wpAny_standAt (wpAny_bind (wpAny_operating (PyProof.Rows.ne_int ?_))))
 have e1:((0 + (((owS x).take (k + 1)).length:Int) + 1 - 1 != Int.ofNat k + 1):Bool)=false:=by
  rw [hkl];simp
 rw [e1]
 refine wpAny_holding (wpAny_truthy_bool ?_)
 show wpAny _ _ (execs [] c.env) _ _ _
 refine wpAny_execs_nil ?_
 exact wpAny_execs_nil (kk s₄ fz₄ m₄ (G.mono hf₄) I₄.unloc)
theorem law_S8 (C:LawC w p loose mg mb c) {x:Sx}{k:Nat}(hx:okS x) (hh:hS x≤7) (hlen:(owS x).length≤1900) (hk:k < (owS x).length) (I:Inv noU (KF w.params) w.params tis fr c ⟨loc8 (owS x) k,[]⟩ [] [] tb fz m s)
  (kk:∀ s' fz' m',GrT tis fz'→Inv noU (KF w.params) w.params [] fr c ⟨[],[]⟩ [] [] [] fz' m' s'→wpAny (model pw_pc0148_01 w) c.A (execs (L83 8) c.env) Q E s'):wpAny (model pw_pc0148_01 w) c.A (execs (L83 7) c.env) Q E s:=by
 have hX:RXm (RX1 tis):=λ c=>rx_m _ _ c
 have e:=t83_7
 rw [e]
 have HB:=baseI (w:=w) (p:=p) (loose:=loose) (mg:=mg) (mb:=mb) tis
 have HE:=baseI (w:=w) (p:=p) (loose:=loose) (mg:=mg) (mb:=mb) []
 obtain ⟨wk,hwk⟩:∃ wk,(owS x)[k]? = some wk:=⟨_,List.getElem?_eq_getElem hk⟩
 have hplain:=zqs (owS x)
 refine step_if (ti:=tis) (U:=noU) (fr:=fr) (fz:=fz) (RX:=RX1 tis) (ad:=[]) (v:=zxc wk ["THEN", "ELSE"]) (σ':=⟨loc8 (owS x) k,[]⟩) (sd_tcmp (σ₁:=⟨loc8 (owS x) k,[]⟩) (σ₂:=⟨loc8 (owS x) k,[]⟩) (a:=.str wk) (b:=.tup [.str "THEN",.str "ELSE"]) hX rfl ?_ ?_ ?_) ?_ ?_
 ·refine sd_sub2 (σ₁:=⟨loc8 (owS x) k,[]⟩) (a:=.tup ((owS x).map .str)) (b:=.int (Int.ofNat k)) hX (zzv HB.FA C.Y I (C.loc (by decide)) (by decide) rfl) (λ s' ad' own tb fz' m _ _ I'=>zzv HB.FA C.Y I' (C.loc (by decide)) (by decide) rfl) ?_
  intro va vb s' ad' own tb fz' m _ _ I' ha hb
  replace ha:=ha.inv;cases ha with | tup g1 g2=>
  replace hb:=hb.inv;cases hb
  rename_i vs a n dd sl t
  have hl:=g2.plain hplain
  rw [List.length_map] at hl
  have hx1:((owS x).map AV.str)[k]? = some (.str wk):=by rw [List.getElem?_map,hwk];rfl
  obtain ⟨v,hv1,hv2⟩:=g2.at_plain hplain hx1
  refine item_tupleT (zql I' C.Y.X g1) (Int.le_trans (by decide) (Int.natCast_nonneg k)) (by show Int.ofNat k < 2 ^ 63;simp;omega) (j:=k) (by unfold seqIndex?;simp;omega) hv1 (.mk I' hv2)
 ·intro s' ad' own tb fz' m hp _ I'
  have:=(zq8 HB 10 c (C.Y.le (by decide))).E fr (.Tuple [.Constant (.str "THEN") 0 ⟨590,21,590,27⟩,.Constant (.str "ELSE") 0 ⟨590,29,590,35⟩] 0 ⟨590,20,590,36⟩) _ _ _ _ _ _ _ I'
  rw [C.sc] at this
  exact (run_te false (.tup ((owS x).map .str)) (.int (Int.ofNat k)) ⟨590,21,590,27⟩ ⟨590,29,590,35⟩ ⟨590,20,590,36⟩ 0)▸this
 ·intro va vb s' ad' own tb fz' m _ _ I' ha hb
  exact sd_cmp HB.FA C.Y.X (by have:=C.Y.un;simp [cLine];omega) I' ha hb rfl
 ·intro _ s' ad' own tb fz' m' hp hf I'
  have h0:Inv noU (KF w.params) w.params tis fr c ⟨[],[]⟩ [] [] tb (own++fz') m' s':=I'.dropHo (loc':=[]) λ ad n a h=>nomatch h
  obtain ⟨h1,h2⟩:=h0.dropTb
  exact kk s' (tb++(own++fz')) m' h2 h1
 ·exact λ hin s' ad' own tb fz' m' hp hf I'=>law_odd C hx hh hlen hwk hin (I'.dropHo (loc':=loc8 (owS x) k) λ ad n a' h=>by
   rcases zxw h with ⟨rfl,rfl⟩ | h
   ·exact ⟨_,rfl,λ K P fz v x=>zxz _ x⟩
   ·rcases zxw h with ⟨rfl,rfl⟩ | h
    ·exact ⟨_,rfl,HdF.pure (Pure.int _)⟩
    ·cases h) kk
end
end
section
section
variable {M:Model}{A:Around}{E:Value→Shared→Prop}{s:Shared}{h₀:Heap}{L c P:Addr}{m mg mb:Str→Option Value}{p:Program}{loose:List Str}{mean:ExcName→Option Value}{name qual:Str}{params:Arguments}{body:PySem.Expr}{scope:Scope}{pos:Pos}{n:Nat}{env:Env}
theorem main_off (F:Fr h₀ L s.heap m) (T:Top p loose mean mg mb h₀) {ps:Array Value}(hP:s.heap.get? P=some (tabObj ps)):mainGlobals≠P∧s.heap.BuiltinsAt mg P:=by
 have hgs:=T.g.keeps F.keep
 obtain ⟨bm,ob,b1,b2,b3,b4,b5,b6⟩:=T.bmain
 refine ⟨λ q=>?_,bm,ob,b1,b2,λ q=>?_,λ q=>?_,F.keep _ _ b3,b4,b5,b6⟩
 ·obtain ⟨o,es,ep,e,hd,_⟩:=hgs
  rw [q,hP] at e;cases e;cases hd
 ·obtain ⟨o,es,ep,e,hd,_⟩:=T.g
  rw [q,e] at b3;cases b3;rw [hd] at b6;cases b6
 ·have e:=F.keep _ _ b3
  rw [q,hP] at e;cases e;cases b4
theorem lam_new {Q:Value→Shared→Prop}(hge:env.globals=mainGlobals) (hcode:env.code=.ref c) (hcl:closureFor scope env=pure []) (F:Fr h₀ L s.heap m) (T:Top p loose mean mg mb h₀) (C:CodeHd h₀ c P) (hP:s.heap.get? P=some (tabObj #[])) (hPL:P≠L)
  (hP0:h₀.get? P=none)
  (h:∀ f c' oc vs t ctv h' tk,(∀ b o,b≠P→s.heap.get? b=some o→h'.get? b=some o)→h'.get? P=some (tabObj #[rawInt pos.line,rawInt pos.col,.ref c'])→h'.get? c'=some oc→oc.data=.fields vs→vs[1]? = some (.str qual t) →
   h'.get? f=some (kla_obj name qual params body scope [] ((mg "__name__").getD .none) c' ctv)→s.heap.objs.size≤c'→c' < f→Fr h₀ L h' m→Q (.ref f) { s with heap:=h',toks:=tk }) :
  wpAny M A (makeFunction name qual params (.expr body) scope env [] [] [] pos n) Q E s:=by
 obtain ⟨hgP,hb⟩:=main_off F T hP
 refine kla_makeFunction (mg:=mg) hcl hge (T.g.keeps F.keep) hcode (C.keeps F.keep) hP trivial rfl hgP hb λ c' ctv h' tk hx hge hlt hrec htb=>?_
 obtain ⟨c₂,oc,vs,t,e2,hoc,hd,hv⟩:=hrec
 cases e2
 refine h h'.objs.size c' oc vs t ctv _ tk (λ b o hb e=>Heap.get?_push_of_some _ (hx b o hb e)) (Heap.get?_push_of_some _ htb) (Heap.get?_push_of_some _ hoc) hd hv (Heap.get?_push_size _ rfl) hge hlt ⟨(F.ns.extBut hx hPL.symm).push _,λ b o e=>?_,F.above⟩
 exact Heap.get?_push_of_some _ (hx b o (λ q=>by rw [q,hP0] at e;cases e) (F.keep b o e))
theorem lam_hit {Q:Value→Shared→Prop}{c':Addr}{ps:Array Value}(hge:env.globals=mainGlobals) (hcode:env.code=.ref c) (hcl:closureFor scope env=pure []) (F:Fr h₀ L s.heap m) (T:Top p loose mean mg mb h₀) (C:CodeHd h₀ c P) (hP:s.heap.get? P=some (tabObj ps)) (ht:TriplesOk ps.toList)
  (hf:codeAmong pos ps.toList=some (.ref c'))
  (h:∀ f ctv h' tk,(∀ b o,s.heap.get? b=some o→h'.get? b=some o)→h'.get? f=some (kla_obj name qual params body scope [] ((mg "__name__").getD .none) c' ctv)→s.heap.objs.size≤f→Fr h₀ L h' m→Q (.ref f) { s with heap:=h',toks:=tk }) :
  wpAny M A (makeFunction name qual params (.expr body) scope env [] [] [] pos n) Q E s:=by
 obtain ⟨hgP,hb⟩:=main_off F T hP
 refine kla_makeFunctionHit (mg:=mg) hcl hge (T.g.keeps F.keep) hcode (C.keeps F.keep) hP ht hf hb λ ctv h' tk hk hsz=>?_
 exact h h'.objs.size ctv _ tk (λ b o e=>Heap.get?_push_of_some _ (hk b o e)) (Heap.get?_push_size _ rfl) hsz ⟨(F.ns.keeps hk).push _,λ b o e=>Heap.get?_push_of_some _ (hk b o (F.keep b o e)),F.above⟩
end
end
section
section
variable {prog:Program}{w:World}{A:Around}{E:Value→Shared→Prop}{s:Shared}{h₀:Heap}{L:Addr}{m:Str→Option Value}{env:Env}
noncomputable def TupAt (h₀:Heap) (ax:Addr) (its:Array Value) (news:List (Addr × Obj)):Prop:=∃ o,(h₀.get? ax=some o∨(ax,o)∈news)∧o.cls=.type "tuple" ∧ ∃ n,o.data=.seq its n
theorem TupAt.tup {h:Heap}{ax:Addr}{its:Array Value}{news:List (Addr × Obj)}(x:TupAt h₀ ax its news) (k:∀ b o,h₀.get? b=some o→h.get? b=some o) (N:News h₀ L h news):h.IsTuple ax its:=by
 obtain ⟨o,e | hm,r⟩:=x
 ·exact ⟨o,k _ _ e,r⟩
 ·exact ⟨o,(N _ hm).1,r⟩
theorem tuple_st {ax I:Addr}{its:Array Value}(i:Nat) (h h':Heap) (o:Obj) (nw:List (Addr × Obj)) (st:h.IsTupleIter I ax i∧h.IsTuple ax its) (e:h.get? I=some o) (e':h'.get? I=some o) (k:∀ b o,h₀.get? b=some o→h'.get? b=some o) (N:News h₀ L h' nw) (S:TupAt h₀ ax its nw) :
  h'.IsTupleIter I ax i∧h'.IsTuple ax its:=by
 obtain ⟨o',q,r⟩:=st.1
 rw [e] at q;cases q
 exact ⟨⟨o,e',r⟩,S.tup k N⟩
theorem ListComp_T {elt iter:Expr}{x:Str}{px:Pos}{scope:Scope}{cl:List (Str × Addr)}{pos:Pos}{Q:Value→Shared→Prop}
  (hclos:closureFor scope env=pure cl) (hcell:∀ y∈scope.names,y.2≠.cell) (hkind:scope.kind=.function)
  (hnames:∀ y∈scope.names,y.2=.local→scope.names.lookup y.1=some .local) (hx:scope.names.lookup x=some .local)
  (h:wpAny (model prog w) A (eval iter env) (λ xv s₁=>∃ ax its news,xv=.ref ax∧A.handled=none∧Fr h₀ L s₁.heap m∧News h₀ L s₁.heap news∧TupAt h₀ ax its news∧its.size≤sizeLine ∧
   ∀ s₂:Shared,(∃ h,s₂ = { s₁ with heap:=h })→LCg.CompRest prog w A h₀ L m env elt x scope cl s₂ (TupAt h₀ ax its) (λ i v=>its[i]? = some v) (LCg.FinE h₀ L m s₂ Q) its.size 0 [] news) E s)
  (hs:∀ x,foldedSetIterable iter env x=pure x:=by intro _;rfl) :
  wpAny (model prog w) A (eval (.ListComp elt [⟨.Name x px,iter,[],0⟩] scope pos) env) Q E s:=by
 rw [eval_ListComp]
 refine wpAny_comprehension_free (use:=none) rfl hs hclos hkind hnames (wpAny_mono h (λ xv s₁ h₁=>?_) λ _ _ e=>e)
 obtain ⟨ax,its,news,rfl,hh,F,N,S,hsz,R⟩:=h₁
 have hl:=S.tup F.keep N
 have hlt:ax < s₁.heap.objs.size:=by obtain ⟨_,e,_⟩:=hl;exact Heap.lt_size e
 refine wpAny_pyIter_tuple hl ?_
 have up:∀ b o,s₁.heap.get? b=some o→(s₁.heap.push { cls:=.type "tuple_iterator",data:=.fields #[.ref ax,.int 0 0] }).get? b=some o:=λ b o e=>Heap.get?_push_of_some _ e
 refine LCg.block_U (Walks.tuple hh s₁.heap.objs.size ax (Nat.ne_of_lt hlt) its) hsz (λ i h st=>by obtain ⟨o,e,_⟩:=st.1;exact ⟨o,e⟩) tuple_st hcell hkind hx ⟨⟨_,Heap.get?_push_size _ rfl,rfl,rfl⟩,hl.at λ o e=>up ax o e⟩ (λ b hb=>?_)
  (F.keeps up) (N.grown up) (Nat.ne_of_lt F.ns.lt) (next_is_new F) (λ p hp=>Nat.ne_of_lt (Heap.lt_size (N p hp).1)) S (R _ ⟨_,rfl⟩) ?_
 ·show b < (s₁.heap.push _).objs.size
  rw [Heap.size_push]
  rcases List.mem_cons.mp hb with rfl | hb
  ·exact Nat.lt_succ_self _
  ·rw [List.mem_singleton.mp hb];exact Nat.lt_succ_of_lt hlt
 ·intro D C h tk m' ys news' F' N' o1 hn hC₀ hD₀ hCL hDL hCD offC fin
  refine ⟨m',hn,λ h'' hs''=>fin D h'' tk (F'.change hs'' hCL hC₀) (λ p hp=>?_) o1⟩
  refine ⟨hs''.extBut _ _ ?_ (N' p hp).1,(N' p hp).2⟩
  rcases List.mem_cons.mp hp with rfl | hp
  ·exact Ne.symm hCD
  ·exact offC p hp
end
end
section
noncomputable def st9:Stmt:=match L83 8 with | x::_=>x | _=>.Pass default
theorem s83_8:L83 8=st9::L83 9:=by kernel_rfl
noncomputable def oddW:List (List Str):=[["GO", "P-1", "P-2", "OF", "S-1"],["STOP"],["GO", "TO"]]
noncomputable def oddA:AV:=.tup (oddW.map λ l=>.tup (l.map .str))
theorem run_odd:(run (outL false) 10).S sc83 st9 ⟨[],[]⟩=ok .next ⟨[("odd",oddA)],[]⟩:=by kernel_rfl
noncomputable def ret9:PySem.Expr:=SV.casesOn (motive:=λ _=>PySem.Expr) (viewS ((L83 9).headD (.Pass default))) id id (λ e _=>e) (λ e _=>e) (λ e _ _=>e) (λ e _=>e) (λ e _ _ _=>e) id default
noncomputable def cmp9 (d:PySem.Expr × PySem.Expr):PySem.Expr × PySem.Expr:=EV.casesOn (motive:=λ _=>PySem.Expr × PySem.Expr) (viewE ret9) (λ _=>d) (λ _=>d) (λ _ _=>d) (λ _ _ _=>d) (λ _=>d) (λ _ _ _=>d) (λ _=>d) (λ _=>d) (λ l r _=>(l,r)) (λ _ _=>d) (λ _ _=>d) (λ _=>d) (λ _ _ _ _=>d) (λ _ _ _=>d) (λ _ _=>d) d
noncomputable def cmpR:PySem.Expr:=(cmp9 default).2
noncomputable def lc9 (d:PySem.Expr × Scope):PySem.Expr × Scope:=PySem.Expr.casesOn (motive_1:=λ _=>PySem.Expr × Scope) (cmp9 default).1 (λ _ _ _=>d) (λ _ _ _=>d) (λ _ _ _ _=>d) (λ _ _ _=>d) (λ _ _ _ _=>d) (λ _ _ _ _=>d) (λ _ _ _=>d) (λ _ _ _=>d) (λ a _ c _=>(a,c)) (λ _ _ _ _=>d) (λ _ _ _ _ _=>d) (λ _ _ _ _=>d) (λ _ _=>d) (λ _ _=>d) (λ _ _=>d) (λ _ _ _ _=>d) (λ _ _ _ _=>d) (λ _ _ _ _=>d) (λ _ _=>d) (λ _ _ _=>d) (λ _ _ _=>d) (λ _ _ _=>d) (λ _ _=>d) (λ _ _=>d) (λ _ _=>d) (λ _ _ _=>d) (λ _ _ _ _=>d)
noncomputable def zq3:Scope:=(lc9 default).2
noncomputable def lam9 (d:Arguments × PySem.Expr × Scope × Pos):Arguments × PySem.Expr × Scope × Pos:=Option.rec d (λ p=>EV.casesOn (motive:=λ _=>Arguments × PySem.Expr × Scope × Pos) (viewE (p.2.1.getD 1 default)) (λ _=>d) (λ _=>d) (λ _ _=>d) (λ _ _ _=>d) (λ _=>d) (λ _ _ _=>d) (λ _=>d) (λ _=>d) (λ _ _ _=>d) (λ _ _=>d) (λ _ _=>d) (λ _=>d) (λ a b s q=>(a,b,s,q)) (λ _ _ _=>d) (λ _ _=>d) d) (oCall (lc9 default).1)
noncomputable def zze:Arguments:=(lam9 default).1
noncomputable def zzy:PySem.Expr:=(lam9 default).2.1
noncomputable def lamSc:Scope:=(lam9 default).2.2.1
noncomputable def zj0:Pos:=(lam9 default).2.2.2
theorem t83_9:L83 9=[.Return (some (.Compare (.ListComp (.Call (.Name "_law_heard" ⟨595,12,595,22⟩) [.Name "one" ⟨595,23,595,26⟩,.Lambda zze zzy lamSc zj0] [] ⟨595,12,595,78⟩) [⟨.Name "one" ⟨595,83,595,86⟩,.Name "odd" ⟨595,90,595,93⟩,[],0⟩] zq3 ⟨595,11,595,94⟩) [.Eq] [cmpR] ⟨595,11,595,107⟩)) ⟨595,4,595,107⟩]:=by kernel_rfl
theorem run_cmpR:(run (outL false) 10).E sc83 cmpR ⟨[],[]⟩=ok (.hnd 0) ⟨[],[.lst [.int 5,.int 1,.int 2]]⟩:=by kernel_rfl
theorem lamA:∃ as,zze=⟨[],as,none,[],[],none,[]⟩∧as.map (·.arg)=(["reader", "read_body"]:List Str):=⟨zze.args,by kernel_rfl,by kernel_rfl⟩
theorem zk1:zq3.kind=.function∧zzg zq3.names=[]∧(∀ y∈zq3.names,y.2≠.cell)∧(∀ y∈zq3.names,y.2=.local→zq3.names.lookup y.1=some .local)∧zq3.names.lookup ("one":Str)=some .local∧zq3.names.lookup ("_law_heard":Str)=some .globalImplicit:=
 ⟨by kernel_rfl,by kernel_rfl,by decide +kernel,by decide +kernel,by decide +kernel,by decide +kernel⟩
theorem lamS:zzg lamSc.names=[]:=by kernel_rfl
noncomputable def lamV:AV:=.lam ["reader", "read_body"] zzy lamSc []
noncomputable def resX (x:Ou AV):Option Int:=excR x
theorem resX_ex {x:Ou AV}{i:Int}(h:resX x=some i):x=some (.exc i):=excR_ex h
theorem run_lam0:resX ((run (outL false) 60).C lamV [.hnd 0,.gref 701] ⟨[],[.rdr 0 0 ((zqa 0 ["GO", "P-1", "P-2", "OF", "S-1"]++[tokW "." 5]).map .tk) nmA]⟩)=some 6:=by rw [zjj];kernel_rfl
theorem run_lam1:resX ((run (outL false) 60).C lamV [.hnd 0,.gref 701] ⟨[],[.rdr 0 0 ((zqa 0 ["STOP"]++[tokW "." 1]).map .tk) nmA]⟩)=some 2:=by rw [zjj];kernel_rfl
theorem run_lam2:resX ((run (outL false) 60).C lamV [.hnd 0,.gref 701] ⟨[],[.rdr 0 0 ((zqa 0 ["GO", "TO"]++[tokW "." 2]).map .tk) nmA]⟩)=some 3:=by rw [zjj];kernel_rfl
theorem lam_pure:∀ K P ad fz v,VR K P ad fz lamV v→VR K P [] fz lamV v:=λ K P ad fz v h=>by
 replace h:=h.inv;cases h with | lam a b c d=>exact .lam a b c .nil
theorem funLam:Fun1 lamV:=⟨lam_pure,λ K P ad fz v h=>by replace h:=h.inv;cases h;exact ⟨_,rfl⟩,by kernel_rfl⟩
theorem zz1 {sc:Scope}{env:Env}(h:zzg sc.names=[]):closureFor sc env=pure []:=by
 have key:∀ (l:List (Str × NameKind)) (cs:List (Str × Addr)),zzg l=[]→(forIn l cs λ (y:Str × NameKind) cs=>(do
   if y.2 == .free then let a ← cellOf env y.1;pure (ForInStep.yield ((y.1,a)::cs)) else pure (ForInStep.yield cs):Sem (ForInStep (List (Str × Addr)))))=pure cs:=by
  intro l
  induction l with
  | nil=>intro cs _;rfl
  | cons p r ih=>
   intro cs h
   obtain ⟨y,k⟩:=p
   by_cases hk:k=.free
   ·subst hk;cases h
   ·have hf:zzg ((y,k)::r)=zzg r:=by cases k<;>first | rfl | exact absurd rfl hk
    have hb:(k == NameKind.free)=false:=by cases k<;>first | rfl | exact absurd rfl hk
    rw [hf] at h
    rw [List.forIn_cons]
    simp only [hb,Bool.false_eq_true,if_false,pure_bind]
    exact ih cs h
 have:=key sc.names [] h
 unfold closureFor
 rw [← this]
 simp only [bind_pure]
theorem zzs {env:Env}:∀ {l:List (Str × NameKind)},zzg l=[]→(l.map λ (n,k)=>if (k == NameKind.free && env.scope.kind == .function && env.kindOf n == some .cell) then (n,NameKind.cell) else (n,k))=l
 | [],_=>rfl
 | (n,k)::r,h=>by
  have hk:k≠.free:=λ e=>by subst e;cases h
  have hf:zzg ((n,k)::r)=zzg r:=by cases k<;>first | rfl | exact absurd rfl hk
  have hb:(k == NameKind.free)=false:=by cases k<;>first | rfl | exact absurd rfl hk
  rw [hf] at h
  rw [List.map_cons,zzs h]
  simp [hb]
theorem comp_kind {cl:List (Str × Addr)}{C:Addr}{env:Env}(x:Str):(compEnvC zq3 cl C env).kindOf x=zq3.names.lookup x:=by
 show List.lookup x (relabel zq3 env).names=_
 unfold relabel
 dsimp only
 rw [zzs zk1.2.1]
section
variable {w:World}{p:Program}{loose:List Str}{mg mb:Str→Option Value}{c:Cx}{fr:Led}{ad:List Ad}{own tb fz:Led}{m:Str→Option Value}{s:Shared}{Q:Flow→Shared→Prop}{E:Value→Shared→Prop}{rest:List Stmt}
theorem law_S9 (C:LawC w p loose mg mb c) (I:Inv noU (KF w.params) w.params [] fr c ⟨[],[]⟩ [] [] [] fz m s)
  (k:∀ s' fz' m',fz⊆fz'→Inv noU (KF w.params) w.params [] fr c ⟨[("odd",oddA)],[]⟩ [] [] [] fz' m' s'→wpAny (model pw_pc0148_01 w) c.A (execs (L83 9) c.env) Q E s'):wpAny (model pw_pc0148_01 w) c.A (execs (L83 8) c.env) Q E s:=by
 rw [s83_8]
 have h:=(zq8 (baseI (w:=w) (p:=p) (loose:=loose) (mg:=mg) (mb:=mb) []) 10 c (C.Y.le (by decide))).S fr st9 _ _ _ _ _ _ _ I
 rw [C.sc,run_odd] at h
 refine zq7 h λ s' ad' own tb fz' m' hp hf I'=>?_
 have ow:=I'.ow
 replace ow:=ow.inv;cases ow
 have tb':=I'.tb
 cases tb'
 exact k s' fz' m' hf I'
theorem lam_fx {W:List Str}{ix:Int}(h:resX ((run (outL false) 60).C lamV [.hnd 0,.gref 701] ⟨[],[.rdr 0 0 ((zqa 0 W++[tokW "." (0 + W.length)]).map .tk) nmA]⟩)=some ix):zj8 w p loose mg mb [] 130 lamV (zqa 0 W) [tokW "." (0 + W.length)] (.inr ix):=
 rk_exc (D:=0) (b:=false) (baseI (w:=w) (p:=p) (loose:=loose) (mg:=mg) (mb:=mb) []) (zqd _) (λ pre f hd tl o post q=>by
  have:Item.sub f hd tl o∈((zqa 0 W++[tokW "." (0 + W.length)]).map Item.tk):=by rw [q];simp
  obtain ⟨z,_,hz⟩:=List.mem_map.mp this
  cases hz) lam_pure (resX_ex h)
end
end
section
noncomputable abbrev lamQ (c:Cx):Str:=c.env.qual ++ "<lambda>"
noncomputable def LamSt (c:Cx) (ps:Array Value) (fz:Led):Prop:=ps = #[]∨∃ c',ps = #[rawInt zj0.line,rawInt zj0.col,.ref c']∧zzk fz (.ref c') (lamQ c)
theorem LamSt.mono {c:Cx}{ps:Array Value}{fz fz':Led}(h:fz⊆fz') (x:LamSt c ps fz):LamSt c ps fz':=x.imp id λ ⟨c',e,q⟩=>⟨c',e,q.mono h⟩
theorem lam_bind (qual:Str) (pm ctv:Value) (c':Addr) (vs:List Value) (h:vs.length=(["reader", "read_body"]:List Str).length):bindArgs (kla_fn "<lambda>" qual zze zzy lamSc [] pm (.ref c') ctv) ⟨vs,[]⟩=pure ((["reader", "read_body"]:List Str).zip vs):=by
 obtain ⟨as,ha,hn⟩:=lamA
 have hl:as.length=2:=by have:=congrArg List.length hn;simpa using this
 have:=zxu (fd:=kla_fn "<lambda>" qual zze zzy lamSc [] pm (.ref c') ctv) (as:=as) (vs:=vs) ha rfl (by rw [hl];exact h) (by rw [hn];decide)
 rw [this,hn]
section
variable {w:World}{p:Program}{loose:List Str}{mg mb:Str→Option Value}{c:Cx}{m:Str→Option Value}{s:Shared}{E:Value→Shared→Prop}
theorem Inv.fresh2 {fr0 fz:Led}{o o':Obj}{h':Heap}{tk:Nat}{f c':Addr}{of oc:Obj}{K:Frag}{P:Params}{U:SubP}{a:Addr}(I:Inv U K P [] (fr0++[(a,o)]) c ⟨[],[]⟩ [] [] [] fz m s) (F':Fr c.h₀ c.L h' m) (hk:∀ b o,b≠a→s.heap.get? b=some o→h'.get? b=some o) (ht:h'.get? a=some o')
  (hc:h'.get? c'=some oc) (hf:h'.get? f=some of) (l1:s.heap.objs.size≤c') (l2:c' < f):Inv U K P [] (fr0++[(a,o')]) c ⟨[],[]⟩ [] [] [] ((f,of)::(c',oc)::fz) m { s with heap:=h',toks:=tk }:=by
 have N:=I.N
 have nd:=I.nd
 have lt:=I.lt
 have hL:c.L < s.heap.objs.size:=I.F.ns.lt
 have fr:∀ b,s.heap.objs.size≤b→b≠c.L∧c.h₀.get? b=none:=λ b hb=>⟨Nat.ne_of_gt (Nat.lt_of_lt_of_le hL hb),Heap.get?_none_of_le (Nat.le_trans I.F.above (Nat.le_of_lt (Nat.lt_of_lt_of_le hL hb)))⟩
 have nd1:((fr0++[(a,o)]++fz).map (·.1)).Nodup:=nd
 have lt1:∀ q∈fr0++[(a,o)]++fz,q.1 < s.heap.objs.size:=lt
 have N1:∀ q∈fr0++[(a,o)]++fz,s.heap.get? q.1=some q.2∧q.1≠c.L∧c.h₀.get? q.1=none:=N
 have pm:∀ (o:Obj) (x:Led),(fr0++[(a,o)]++x).Perm ((a,o)::(fr0++x)):=λ o x=>by
  rw [List.append_assoc];exact List.perm_middle
 have pm2:(fr0++[(a,o')]++((f,of)::(c',oc)::fz)).Perm ((f,of)::(c',oc)::(fr0++[(a,o')]++fz)):=List.perm_middle.trans (.cons _ List.perm_middle)
 have ndq:∀ q∈fr0++fz,q.1≠a:=λ q hq e=>by
  have h:=((pm o fz).map (·.1)).nodup_iff.mp nd1
  exact (List.nodup_cons.mp h).1 (List.mem_map.mpr ⟨q,hq,e⟩)
 have hs:fz⊆(f,of)::(c',oc)::fz:=λ _ h=>.tail _ (.tail _ h)
 refine ⟨F',λ q hq=>?_,?_,I.ow |> λ h=>by replace h:=h.inv;cases h;exact .nil,I.tb |> λ h=>by cases h;exact .nil,(λ _ _ q=>nomatch q),I.og⟩
 ·have hq:q∈fr0++[(a,o')]++((f,of)::(c',oc)::fz):=hq
  rcases List.mem_cons.mp (pm2.mem_iff.mp hq) with rfl | hq
  ·exact ⟨hf,fr _ (Nat.le_trans l1 (Nat.le_of_lt l2))⟩
  ·rcases List.mem_cons.mp hq with rfl | hq
   ·exact ⟨hc,fr _ l1⟩
   ·rcases List.mem_cons.mp ((pm o' fz).mem_iff.mp hq) with rfl | hq
    ·exact ⟨ht,(N1 (a,o) ((pm o fz).mem_iff.mpr (.head _))).2⟩
    ·have z:=N1 q ((pm o fz).mem_iff.mpr (.tail _ hq))
     exact ⟨hk _ _ (ndq q hq) z.1,z.2⟩
 ·show ((fr0++[(a,o')]++((f,of)::(c',oc)::fz)).map (·.1)).Nodup
  refine (pm2.map _).nodup_iff.mpr ?_
  have nd2:((fr0++[(a,o')]++fz).map (·.1)).Nodup:=by
   have e:(fr0++[(a,o')]++fz).map (·.1)=(fr0++[(a,o)]++fz).map (·.1):=by simp
   rw [e];exact nd1
  have lt2:∀ x∈(fr0++[(a,o')]++fz).map (·.1),x < s.heap.objs.size:=λ x hx=>by
   have e:(fr0++[(a,o')]++fz).map (·.1)=(fr0++[(a,o)]++fz).map (·.1):=by simp
   rw [e] at hx
   obtain ⟨q,hq,rfl⟩:=List.mem_map.mp hx
   exact lt1 q hq
  refine List.nodup_cons.mpr ⟨λ h=>?_,List.nodup_cons.mpr ⟨λ h=>?_,nd2⟩⟩
  ·rcases List.mem_cons.mp h with e | h
   ·exact absurd e (Nat.ne_of_gt l2)
   ·exact absurd (lt2 _ h) (Nat.not_lt.mpr (Nat.le_trans l1 (Nat.le_of_lt l2)))
  ·exact absurd (lt2 _ h) (Nat.not_lt.mpr l1)
theorem Inv.fresh1 {fr fz:Led}{h':Heap}{tk:Nat}{f:Addr}{of:Obj}{K:Frag}{P:Params}{U:SubP}(I:Inv U K P [] fr c ⟨[],[]⟩ [] [] [] fz m s) (F':Fr c.h₀ c.L h' m) (hk:∀ b o,s.heap.get? b=some o→h'.get? b=some o)
  (hf:h'.get? f=some of) (l1:s.heap.objs.size≤f):Inv U K P [] fr c ⟨[],[]⟩ [] [] [] ((f,of)::fz) m { s with heap:=h',toks:=tk }:=by
 have lt:=I.lt
 have hL:c.L < s.heap.objs.size:=I.F.ns.lt
 have pm2:(fr++((f,of)::fz)).Perm ((f,of)::(fr++fz)):=List.perm_middle
 refine ⟨F',λ q hq=>?_,?_,I.ow |> λ h=>by replace h:=h.inv;cases h;exact .nil,I.tb |> λ h=>by cases h;exact .nil,(λ _ _ q=>nomatch q),I.og⟩
 ·have hq:q∈fr++((f,of)::fz):=hq
  rcases List.mem_cons.mp (pm2.mem_iff.mp hq) with rfl | hq
  ·exact ⟨hf,Nat.ne_of_gt (Nat.lt_of_lt_of_le hL l1),Heap.get?_none_of_le (Nat.le_trans I.F.above (Nat.le_of_lt (Nat.lt_of_lt_of_le hL l1)))⟩
  ·have z:=I.N q hq
   exact ⟨hk _ _ z.1,z.2⟩
 ·show ((fr++((f,of)::fz)).map (·.1)).Nodup
  refine (pm2.map _).nodup_iff.mpr (List.nodup_cons.mpr ⟨λ h=>?_,I.nd⟩)
  obtain ⟨q,hq,e⟩:=List.mem_map.mp h
  have:=lt q hq
  rw [e] at this
  exact absurd this (Nat.not_lt.mpr l1)
theorem lam_made (C:LawC w p loose mg mb c) {c₀:Addr}(hcd:c.ccd=.ref c₀) (CH:CodeHd c.h₀ c₀ 745) {ps:Array Value}{fz fr0:Led}(LS:LamSt c ps fz) {C':Addr}(I:Inv noU (KF w.params) w.params [] (fr0++[(745,tabObj ps)]) c ⟨[],[]⟩ [] [] [] fz m s) {Q:Value→Shared→Prop}
  (k:∀ f h' tk ps' fz',fz⊆fz'→LamSt c ps' fz'→Inv noU (KF w.params) w.params [] (fr0++[(745,tabObj ps')]) c ⟨[],[]⟩ [] [] [] fz' m { s with heap:=h',toks:=tk }→VR (KF w.params) w.params [] fz' lamV (.ref f)→Q (.ref f) { s with heap:=h',toks:=tk }) :
  wpAny (model pw_pc0148_01 w) c.A (eval (.Lambda zze zzy lamSc zj0) (compEnvC zq3 [] C' c.env)) Q E s:=by
 obtain ⟨as,ha,hn⟩:=lamA
 obtain ⟨mean,T⟩:=C.Y.top
 have hm:(745,tabObj ps)∈(fr0++[(745,tabObj ps)])++fz:=List.mem_append_left _ (List.mem_append_right _ (.head _))
 have hN:=I.N _ hm
 refine kla_eval (by rw [ha];rfl) ?_
 rcases LS with rfl | ⟨c',rfl,hc⟩
 ·refine lam_new (env:=compEnvC zq3 [] C' c.env) rfl hcd (zz1 lamS) I.F T CH hN.1 hN.2.1 hN.2.2 λ f c' oc vs t ctv h' tk hk ht hoc hd hv hf l1 l2 F'=>?_
  refine k f h' tk _ _ (λ _ h=>.tail _ (.tail _ h)) (.inr ⟨c',rfl,c',oc,vs,t,rfl,.tail _ (.head _),hd,hv⟩) (I.fresh2 F' hk ht hoc hf l1 l2) (.lam (.head _) (lam_bind _ _ _ _) ⟨c',oc,vs,t,rfl,.tail _ (.head _),hd,hv⟩ .nil)
 ·have hca:codeAmong zj0 [rawInt zj0.line,rawInt zj0.col,.ref c']=some (.ref c'):=codeAmong_snoc [] trivial rfl
  refine lam_hit (env:=compEnvC zq3 [] C' c.env) rfl hcd (zz1 lamS) I.F T CH hN.1 trivial hca λ f ctv h' tk hk hf l1 F'=>?_
  have hs:fz⊆(f,kla_obj "<lambda>" ((compEnvC zq3 [] C' c.env).qual ++ "<lambda>") zze zzy lamSc [] ((mg "__name__").getD .none) c' ctv)::fz:=λ _ h=>.tail _ h
  exact k f h' tk _ _ hs (.inr ⟨c',rfl,hc.mono hs⟩) (I.fresh1 F' hk hf l1) (.lam (.head _) (lam_bind _ _ _ _) (hc.mono hs) .nil)
end
end
section
section
variable {w:World}{p:Program}{loose:List Str}{mg mb:Str→Option Value}{c:Cx}{m:Str→Option Value}{s:Shared}{E:Value→Shared→Prop}
theorem cn_heard (C:LawC w p loose mg mb c) (F:Fr c.h₀ c.L s.heap m) {Q:Value→Shared→Prop}{C':Addr}{pos:Pos}(h:Q (.ref 708) s):wpAny (model pw_pc0148_01 w) c.A (eval (.Name "_law_heard" pos) (compEnvC zq3 [] C' c.env)) Q E s:=
 Name_function_global (env:=compEnvC zq3 [] C' c.env) zk1.1 ((comp_kind _).trans zk1.2.2.2.2.2) (loadGlobal_global (env:=compEnvC zq3 [] C' c.env) (mg:=mg) (C.Y.T.keeps F.keep).g (mg_of C.Y.X C.Y.T.g (heard_is _)) h) (by decide)
theorem law_item (C:LawC w p loose mg mb c) {c₀:Addr}(hcd:c.ccd=.ref c₀) (CH:CodeHd c.h₀ c₀ 745) {W:List Str}{ix:Int}(hR:zj8 w p loose mg mb [] 130 lamV (zqa 0 W) [tokW "." (0 + W.length)] (.inr ix)) (hv:∀ x∈W,x∈voc) (hlen:W.length≤2000)
  {fz:Led}{ps:Array Value}(LS:LamSt c ps fz) {v:Value}(hvr:VR (KF w.params) w.params [] fz (.tup (W.map .str)) v) {I' C' D ax:Addr}{oI oC:Obj}{ys:List Value}{m₂:Str→Option Value}{h:Heap}{tk:Nat}{its:Array Value}(S:TupAt c.h₀ ax its fz)
  (hoC:LCg.NsObj oC m₂) (hone:m₂ "one" = some v) (F:Fr c.h₀ c.L h m) (N:News c.h₀ c.L h ((I',oI)::(C',oC)::(D,LCg.lst ys)::(745,tabObj ps)::fz)) (off:LCg.Off3 I' C' D ((745,tabObj ps)::fz)) (hd:(@Ne Nat I' C')∧(@Ne Nat I' D)∧(@Ne Nat C' D))
  (nd:(((745,tabObj ps)::fz).map (·.1)).Nodup) (og:(s.os,s.gens,s.drawn)=c.og) {rest:Value→List (Addr × Obj)→Prop}{E':Value→Shared→Prop}{p1 p2 p3:Pos}
  (k:∀ t ps' fz',fz⊆fz'→LamSt c ps' fz'→(((745,tabObj ps')::fz').map (·.1)).Nodup→rest (.int (ix - 1) t) ((745,tabObj ps')::fz')) :
  wpAny (model pw_pc0148_01 w) c.A (eval (.Call (.Name "_law_heard" p1) [.Name "one" p2,.Lambda zze zzy lamSc zj0] [] p3) (compEnvC zq3 [] C' c.env)) (LCg.CompEnd c.h₀ c.L m { s with heap:=h,toks:=tk } I' oI C' oC D (LCg.lst ys) (TupAt c.h₀ ax its) rest) E' { s with heap:=h,toks:=tk }:=by
 have FC:=(baseI (w:=w) (p:=p) (loose:=loose) (mg:=mg) (mb:=mb) []).FC
 have offm:=off.mem
 have nd3:∀ {l:Led},(l.map (·.1)).Nodup→(∀ q∈l,q.1≠I'∧q.1≠C'∧q.1≠D)→(((I',oI)::(C',oC)::(D,LCg.lst ys)::l).map (·.1)).Nodup:=λ {l} n o=>by
  have key:∀ x,(∀ q∈l,q.1≠x)→x∉l.map (·.1):=λ x h hm=>by
   obtain ⟨q,hq,e⟩:=List.mem_map.mp hm
   exact h q hq e
  refine List.nodup_cons.mpr ⟨λ h=>?_,List.nodup_cons.mpr ⟨λ h=>?_,List.nodup_cons.mpr ⟨key D λ q hq=>(o q hq).2.2,n⟩⟩⟩
  ·rcases List.mem_cons.mp h with e | h
   ·exact hd.1 e
   ·rcases List.mem_cons.mp h with e | h
    ·exact hd.2.1 e
    ·exact key I' (λ q hq=>(o q hq).1) h
  ·rcases List.mem_cons.mp h with e | h
   ·exact hd.2.2 e
   ·exact key C' (λ q hq=>(o q hq).2.1) h
 have I₀:Inv noU (KF w.params) w.params [] ([(I',oI),(C',oC),(D,LCg.lst ys)]++[(745,tabObj ps)]) c ⟨[],[]⟩ [] [] [] fz m { s with heap:=h,toks:=tk }:=
  ⟨F,N,nd3 nd offm,.nil,.nil,(λ _ _ q=>nomatch q),og⟩
 rw [arm_eval_Call_Name']
 refine wpAny_bind (cn_heard C F ?_)
 refine zzp rfl ?_
 rw [zqe (e:=.Name _ _) rfl,zqe (e:=.Lambda _ _ _ _) rfl]
 refine spliced_cons (ldVarK (m:=m₂) (hoC.ns (N _ (.tail _ (.head _))).1) hone ?_ zk1.1 ((comp_kind _).trans zk1.2.2.2.2.1) (by decide))
 refine spliced_cons (lam_made C hcd CH LS I₀ λ f h' tk' ps' fz' hf LS' I₁ hl=>?_)
 refine spliced_nil ⟨zxn FC C.Y.X (f:=.gref 708) (by kernel_rfl) I₁ (.gref 708),?_⟩
 refine wpAny_call (codeAny_mono (heard_fx funLam hR (by decide) (C.Y.le (by decide)) C.out C.cl C.TB hv hlen I₁ (hvr.mono .refl hf) hl) λ r s' z=>?_)
 cases r with
 | error e=>exact z.elim
 | ok fl=>
  cases fl with
  | ret u=>
   obtain ⟨ad₂,own₂,fz₂,hp₂,hf₂,G,I₂,hu⟩:=z
   have ow₂:=I₂.ow
   replace ow₂:=ow₂.inv;cases ow₂
   replace hu:=hu.inv;cases hu with | int t=>
   have nd₂:=I₂.nd
   have og₂:=I₂.og
   rw [← og] at og₂
   obtain ⟨hp',gs,dr,tk2,os⟩:=s'
   obtain ⟨rfl,e2⟩:=Prod.mk.inj og₂
   obtain ⟨rfl,rfl⟩:=Prod.mk.inj e2
   have nd4:(((I',oI)::(C',oC)::(D,LCg.lst ys)::(745,tabObj ps')::fz₂).map (·.1)).Nodup:=nd₂
   have n1:=List.nodup_cons.mp nd4
   have n2:=List.nodup_cons.mp n1.2
   have n3:=List.nodup_cons.mp n2.2
   have ne:∀ {q:Addr × Obj}{l:Led}{x:Addr},q∈l→x∉l.map (·.1)→q.1≠x:=λ h hx e=>hx (List.mem_map.mpr ⟨_,h,e⟩)
   have hfs:fz⊆fz₂:=λ _ h=>hf₂ (hf h)
   obtain ⟨oS,hS,hS2⟩:=S
   exact ⟨hp',tk2,(745,tabObj ps')::fz₂,rfl,I₂.F,λ q hq=>I₂.N q hq,LCg.Off3.of λ q hq=>⟨ne (.tail _ (.tail _ hq)) n1.1,ne (.tail _ hq) n2.1,ne hq n3.1⟩,
    ⟨oS,hS.imp id λ hm=>.tail _ (hfs hm),hS2⟩,k t ps' fz₂ hfs (LS'.mono hf₂) n3.2⟩
  | _=>exact z.elim
theorem zjm:∀ W∈oddW,(∀ x∈W,x∈voc)∧W.length≤2000:=by decide
theorem VRs.q3 {K:Frag}{P:Params}{ad:List Ad}{fz:Led}{a b c:AV}{vs:List Value}{Q:List Value→Prop}(h:VRs K P ad fz [a,b,c] vs) (qa:conS a=false) (qb:conS b=false) (qc:conS c=false) (k:∀ {x y z},VR K P ad fz a x→VR K P ad fz b y→VR K P ad fz c z→Q [x,y,z]):Q vs:=
 h.qCons (Q:=Q) qa λ {v _} x h=>h.qCons (Q:=λ l=>Q (v::l)) qb λ {u _} y h=>h.qCons (Q:=λ l=>Q (v::u::l)) qc λ {t _} z h=>h.qNil (Q:=λ l=>Q (v::u::t::l)) (k x y z)
theorem off1_mem {D:Addr}{l:Led}:LCg.Off1 D l→∀ q∈l,q.1≠D:=by
 induction l with
 | nil=>intro _ q hq;cases hq
 | cons a r ih=>
  intro x q hq
  rcases List.mem_cons.mp hq with rfl | hq
  ·exact x.1
  ·exact ih x.2 q hq
theorem OWs.lst1 {U:SubP}{K:Frag}{P:Params}{ad:List Ad}{fz:Led}{xs:List Ad}{l:List AV}{es:Led}{Q:List Ad→Led→Prop}(h:OWs U K P ad fz xs [.lst l] es) (k:∀ x vs n,VRs K P ad fz l vs→Q [x] [(x.a,listOf vs.toArray n)]):Q xs es:=by
 replace h:=h.inv;cases h with | cons o1 o2=>
 replace o2:=o2.inv;cases o2
 replace o1:=o1.inv;cases o1 with | lst q=>exact k _ _ _ q
theorem Tabs.nil_q {fz tb:Led}{Q:Led→Prop}(h:Tabs fz [] tb) (k:Q []):Q tb:=by cases h;exact k
theorem odd_eq {A:Around}{D X:Addr}{n:Nat}{t0 t1 t2 u0 u1 u2:Tok}{s₆:Shared}{Q:Value→Shared→Prop}(hu:A.units + 1 < cLine) (hD:s₆.heap.get? D=some (LCg.lst [.int (6 - 1) t0,.int (2 - 1) t1,.int (3 - 1) t2])) (hX:s₆.heap.get? X=some (listOf [Value.int 5 u0,.int 1 u1,.int 2 u2].toArray n)) (h:Q (.bool true) s₆) :
  wpAny (model pw_pc0148_01 w) A (compareOp .Eq (.ref D) (.ref X)) Q E s₆:=by
 have r1:Reads s₆.heap (.ref D) (.list [.int 5,.int 1,.int 2]) [D]:=.list hD rfl rfl (.cons (.int 5 t0) (.cons (.int 1 t1) (.cons (.int 2 t2) .nil)))
 have r2:Reads s₆.heap (.ref X) (.list [.int 5,.int 1,.int 2]) [X]:=.list hX rfl rfl (.cons (.int 5 u0) (.cons (.int 1 u1) (.cons (.int 2 u2) .nil)))
 have e1:(PyData.list [.int 5,.int 1,.int 2]).depth=1:=by decide +kernel
 refine SeqAt.compareEq_reads r1 r2 (by decide +kernel) (by decide +kernel) (by rw [e1,Nat.min_self];exact hu) ?_
 have e3:PyData.eqv (.list [.int 5,.int 1,.int 2]) (.list [.int 5,.int 1,.int 2])=true:=by decide +kernel
 rw [e3]
 exact h
@[elab_as_elim] theorem law_end {D:Addr}{t0 t1 t2:Tok}{ps:Array Value}{ad:List Ad}{own tb fz:Led}{u:Value}{Q:Value→Prop}(I:Inv noU (KF w.params) w.params [] [(D,LCg.lst [.int (6 - 1) t0,.int (2 - 1) t1,.int (3 - 1) t2]),(745,tabObj ps)] c ⟨[],[.lst [.int 5,.int 1,.int 2]]⟩ ad own tb fz m s) (hu:VR (KF w.params) w.params ad fz (.hnd 0) u)
  (k:∀ X n u0 u1 u2,s.heap.get? D=some (LCg.lst [.int (6 - 1) t0,.int (2 - 1) t1,.int (3 - 1) t2])→s.heap.get? X=some (listOf [Value.int 5 u0,.int 1 u1,.int 2 u2].toArray n)→News c.h₀ c.L s.heap ((745,tabObj ps)::(X,listOf [Value.int 5 u0,.int 1 u1,.int 2 u2].toArray n)::fz)→Q (.ref X)):Q u:=by
 have N:=I.N
 refine I.tb.nil_q (Q:=λ tb=>News c.h₀ c.L s.heap (own++(tb++([(D,LCg.lst [.int (6 - 1) t0,.int (2 - 1) t1,.int (3 - 1) t2]),(745,tabObj ps)]++fz)))→Q u) (λ N=>?_) N
 refine I.ow.lst1 (Q:=λ ad own=>VR (KF w.params) w.params ad fz (.hnd 0) u→News c.h₀ c.L s.heap (own++([]++([(D,LCg.lst [.int (6 - 1) t0,.int (2 - 1) t1,.int (3 - 1) t2]),(745,tabObj ps)]++fz)))→Q u) (λ x vs n h hu N=>?_) hu N
 refine h.q3 (Q:=λ vs=>News c.h₀ c.L s.heap ([(x.a,listOf vs.toArray n)]++([]++([(D,LCg.lst [.int (6 - 1) t0,.int (2 - 1) t1,.int (3 - 1) t2]),(745,tabObj ps)]++fz)))→Q u) rfl rfl rfl (λ a b d N=>?_) N
 refine a.qInt (Q:=λ v=>News c.h₀ c.L s.heap ([(x.a,listOf [v,_,_].toArray n)]++([]++([(D,LCg.lst [.int (6 - 1) t0,.int (2 - 1) t1,.int (3 - 1) t2]),(745,tabObj ps)]++fz)))→Q u) rfl (λ u0 N=>?_) N
 refine b.qInt (Q:=λ v=>News c.h₀ c.L s.heap ([(x.a,listOf [.int 5 u0,v,_].toArray n)]++([]++([(D,LCg.lst [.int (6 - 1) t0,.int (2 - 1) t1,.int (3 - 1) t2]),(745,tabObj ps)]++fz)))→Q u) rfl (λ u1 N=>?_) N
 refine d.qInt (Q:=λ v=>News c.h₀ c.L s.heap ([(x.a,listOf [.int 5 u0,.int 1 u1,v].toArray n)]++([]++([(D,LCg.lst [.int (6 - 1) t0,.int (2 - 1) t1,.int (3 - 1) t2]),(745,tabObj ps)]++fz)))→Q u) rfl (λ u2 N=>?_) N
 refine hu.qHnd rfl λ {y} hy=>?_
 obtain rfl:x=y:=Option.some.inj hy
 refine k _ n u0 u1 u2 (N _ (.tail _ (.head _))).1 (N _ (.head _)).1 λ q hq=>N q ?_
 rcases List.mem_cons.mp hq with rfl | hq
 ·exact .tail _ (.tail _ (.head _))
 ·rcases List.mem_cons.mp hq with rfl | hq
  ·exact .head _
  ·exact .tail _ (.tail _ (.tail _ hq))
theorem law_S10 (C:LawC w p loose mg mb c) {c₀:Addr}(hcd:c.ccd=.ref c₀) (CH:CodeHd c.h₀ c₀ 745) {fz:Led}{Q:Flow→Shared→Prop}(I:Inv noU (KF w.params) w.params [] [(745,tabObj #[])] c ⟨[("odd",oddA)],[]⟩ [] [] [] fz m s)
  (k:∀ s' fz' m' ps,fz⊆fz'→Fr c.h₀ c.L s'.heap m'→News c.h₀ c.L s'.heap ((745,tabObj ps)::fz')→(s'.os,s'.gens,s'.drawn)=c.og→Q (.ret (.bool true)) s'):wpAny (model pw_pc0148_01 w) c.A (execs (L83 9) c.env) Q E s:=by
 have e:=t83_9
 have HE:=baseI (w:=w) (p:=p) (loose:=loose) (mg:=mg) (mb:=mb) []
 rw [e,execs_cons]
 refine wpAny_bind ?_
 rw [exec_Return_some]
 refine wpAny_bind (wpAny_standAt (wpAny_bind ?_))
 rw [eval_Compare1,markedBehindIn_of_false (zxp (show zkz cmpR=true by kernel_rfl))]
 refine wpAny_bind (ListComp_T (h₀:=c.h₀) (L:=c.L) (m:=m) (zz1 zk1.2.1) zk1.2.2.1 zk1.1 zk1.2.2.2.1 zk1.2.2.2.2.1 ?_)
 obtain ⟨v,hv1,hv2⟩:=(I.lo "odd" oddA rfl).1 (zqf (C.loc (by decide)))
 have hv3:VR (KF w.params) w.params [] fz (.tup [.tup ((["GO", "P-1", "P-2", "OF", "S-1"]:List Str).map .str),.tup ((["STOP"]:List Str).map .str),.tup ((["GO", "TO"]:List Str).map .str)]) v:=hv2
 refine nameX_L I.F hv1 ?_ C.kf (zqf (C.loc (by decide))) (by decide)
 clear hv1 hv2
 refine hv3.qTup rfl λ {vs a n dd sl} g1 g2=>?_
 refine g2.q3 (Q:=λ vs=>Hd (KF w.params) fz a ⟨.type "tuple",dd,.seq vs.toArray n,sl⟩→_) rfl rfl rfl (λ {v0 v1 v2} a0 a1 a2 g1=>?_) g1
 have S₀:TupAt c.h₀ a [v0,v1,v2].toArray fz:=⟨_,g1.symm.imp (λ e=>C.Y.X _ _ e) id,rfl,n,rfl⟩
 refine ⟨a,[v0,v1,v2].toArray,(745,tabObj #[])::fz,rfl,C.Y.hh,I.F,I.N,?_,by rw [sizeLine_eq];show 3≤_;decide,λ s₂ ⟨h₂,e₂⟩=>?_⟩
 ·obtain ⟨o,hS,hS2⟩:=S₀
  exact ⟨o,hS.imp id λ h=>.tail _ h,hS2⟩
 have og₂:(s₂.os,s₂.gens,s₂.drawn)=c.og:=by rw [e₂];exact I.og
 show LCg.CompRest _ _ _ _ _ _ _ _ _ _ _ _ _ _ _ 3 0 [] _
 refine LCg.CompRest.succ λ v I' oI C' oC D m₂ h tk E' hP hoC hone F N off hd=>law_item C hcd CH (lam_fx run_lam0) (zjm _ (.head _)).1 (zjm _ (.head _)).2 (.inl rfl) a0 S₀ hoC (by cases hP;exact hone) F N off hd I.nd og₂ λ t0 ps1 fz1 hf1 LS1 nd1=>?_
 refine LCg.CompRest.succ λ v I' oI C' oC D m₂ h tk E' hP hoC hone F N off hd=>law_item C hcd CH (lam_fx run_lam1) (zjm _ (.tail _ (.head _))).1 (zjm _ (.tail _ (.head _))).2 LS1 (a1.mono .refl hf1) (by
  obtain ⟨o,hS,hS2⟩:=S₀
  exact ⟨o,hS.imp id λ h=>hf1 h,hS2⟩) hoC (by cases hP;exact hone) F N off hd nd1 og₂ λ t1 ps2 fz2 hf2 LS2 nd2=>?_
 refine LCg.CompRest.succ λ v I' oI C' oC D m₂ h tk E' hP hoC hone F N off hd=>law_item C hcd CH (lam_fx run_lam2) (zjm _ (.tail _ (.tail _ (.head _)))).1 (zjm _ (.tail _ (.tail _ (.head _)))).2 LS2 (a2.mono .refl λ _ h=>hf2 (hf1 h)) (by
  obtain ⟨o,hS,hS2⟩:=S₀
  exact ⟨o,hS.imp id λ h=>hf2 (hf1 h),hS2⟩) hoC (by cases hP;exact hone) F N off hd nd2 og₂ λ t2 ps3 fz3 hf3 LS3 nd3=>?_
 refine LCg.CompRest.zero λ D h tk F N o1=>?_
 have I₅:Inv noU (KF w.params) w.params [] [(D,LCg.lst [.int (6 - 1) t0,.int (2 - 1) t1,.int (3 - 1) t2]),(745,tabObj ps3)] c ⟨[],[]⟩ [] [] [] fz3 m { s₂ with heap:=h,toks:=tk }:=
  ⟨F,N,List.nodup_cons.mpr ⟨λ hm=>by
   obtain ⟨q,hq,e⟩:=List.mem_map.mp hm
   exact off1_mem o1 q hq e,nd3⟩,.nil,.nil,(λ _ _ q=>nomatch q),og₂⟩
 have hl:=(zq8 HE 10 c (C.Y.le (by decide))).E [(D,LCg.lst [.int (6 - 1) t0,.int (2 - 1) t1,.int (3 - 1) t2]),(745,tabObj ps3)] cmpR _ _ _ _ _ _ _ I₅
 rw [C.sc,run_cmpR] at hl
 refine wpAny_bind (wpAny_holding (wpAny_mono hl (λ u s₆ z=>?_) λ _ _ h=>h.elim))
 obtain ⟨ad₆,own₆,tb₆,fz₆,m₆,hp₆,hf₆,I₆,hu⟩:=z
 refine law_end I₆ hu λ X n u0 u1 u2 hD hX N'=>?_
 refine wpAny_bind (wpAny_standAt (wpAny_operating (odd_eq (by have:=C.Y.un;simp [cLine];omega) hD hX ?_)))
 exact wpAny_pure (wpAny_pure (k s₆ ((X,_)::fz₆) m₆ ps3 (λ _ h=>.tail _ (hf₆ (hf3 (hf2 (hf1 h))))) I₆.F N' I₆.og))
end
end
section
theorem fun653 (P:Params):(KF P).lookup 653=some ⟨.type "function",none,.func (by refine' (?f:∀ n a b sc,topD 67=(n,a,b,sc)→FuncData) _ _ _ _ ?h;exact λ _ a b sc _=>fnOf "_law_source" "_law_source" a b sc .none .none .none (.str "law_pc0148_01" 1093) none (.ref 652) .none;case h=>conv=>lhs;whnf),#[]⟩:=by kernel_rfl
theorem nsI (P:Params):nsIn (KF P) mainGlobals "int" = some none:=by kernel_rfl
theorem zjo {h₀ h:Heap}{L:Addr}{a b x:Addr × Obj}{l:Led}(N:News h₀ L h (a::b::x::l)):News h₀ L h (a::b::l):=λ q hq=>N q (by
 rcases List.mem_cons.mp hq with rfl | hq
 ·exact .head _
 ·rcases List.mem_cons.mp hq with rfl | hq
  ·exact .tail _ (.head _)
  ·exact .tail _ (.tail _ (.tail _ hq)))
local macro_rules | `(tactic| k_room)=>`(tactic| ((try simp only [depth_under_make,depth_under_kw,depth_in1,depth_deeper,depth_caller,recursionLimit]);omega))
local macro_rules | `(tactic| k_is)=>`(tactic| first | exact fun653 _ | exact nsI _ | (k_whole;decide +kernel) | exact rfl)
local macro_rules | `(tactic| walk_at "exec Assign cons ListComp")=>`(tactic| ((with_reducible apply Assign_ListComp_DCn);(case hsw=>with_unfolding_all rfl);(case hL=>with_unfolding_all rfl);(case hh=>with_unfolding_all rfl);(case hclos=>with_unfolding_all rfl);(case hcell=>decide);(case hkind=>with_unfolding_all rfl);(case hnames=>decide);(case hx=>with_unfolding_all rfl);(case hy=>with_unfolding_all rfl);(case hp=>with_unfolding_all rfl);(case hs=>intro _;with_unfolding_all rfl);(case' h=>with_reducible refine wpAny_compPack ?_)))
theorem src_653 (w:World) {cn:Str}{sc:Scope}{fa:Addr}{ccd:Value}{ccl:List (Str × Addr)}{outer:List Env}{dp un:Nat}{gd:Option (List Code)}{A₀:Around}{base h₀:Heap}{s:Shared}{L:Addr}{m:Str→Option Value}{led:Led}{mean:ExcName→Option Value}{p:Program}{loose:List Str}{mg mb:Str→Option Value}{a:Addr}{vs:List Value}{ns:List Int}
  {R:Result→Shared→Prop}(B:Below A₀ base outer h₀) (X:(KF w.params).In h₀) (T:Top p loose mean mg mb h₀) (F:Fr h₀ L s.heap m) (N:News h₀ L s.heap led)
  (hk:sc.kind=.function) (hd:dp + 50 < 1000) (hu:un + 50 < 9700) (hl:h₀.IsList a vs.toArray) (hi:IntsAre vs ns) (hn:ns.length≤63)
  (hR:∀ h' tk src cl t cs ns' n,Fr h₀ L h' m→News h₀ L h' ((src,PySem.W.listOf #[.ref cl,.int 0 t] 0)::(cl,PySem.W.listOf cs.toArray n)::led)→IntsAre cs ns'→ns'≠[]→ns'.length≤63→cl < src→AllLt src led→R (.ok (.ret (.ref src))) { s with heap:=h',toks:=tk }):codeAny (model pw_pc0148_01 w) ⟨none,dp,some (envX cn sc L fa ccd ccl::outer),gd,un⟩ (.call (.ref 653) ⟨[.ref a],[]⟩) R s:=by
 obtain ⟨hp,gs,dr,tk0,os⟩:=s
 dsimp only at F N hR
 obtain ⟨k,names,b1,b2,fr0⟩:=sc
 obtain rfl:k=.function:=hk
 k_enter
 (with_reducible rename Fr h₀ L _ m=>FG)
 have FK:=FG.keep
 clear FG
 have hl':Heap.IsList _ a vs.toArray:=let ⟨o,ho,r⟩:=hl;⟨o,FK a o ho,r⟩
 clear hl FK
 k_steps
 ·rename_i iX h9 _ _ _ _ l1 kF kN _ _
  have kN':=zjo kN
  refine hR _ _ _ _ _ _ _ _ kF kN' iX ?_ ?_ l1.1 l1.2.2
  ·intro e
   have:=congrArg List.length e
   simp only [List.length_map,List.length_nil] at this
   rw [List.filter_eq_self.mpr (by intros;rfl)] at this
   omega
  ·simp only [List.length_map]
   rw [List.filter_eq_self.mpr (by intros;rfl),List.length_take]
   omega
 ·rename_i l1 kF kN _ _
  have kN':=zjo (zjo kN)
  exact hR _ _ _ _ _ [.int 0 _] [0] _ kF kN' (.cons _ _ .nil) (by simp) (by simp) l1.1 l1.2.2.2
end
section
theorem source_is (P:Params):nsIn (KF P) mainGlobals "_law_source" = some (some (.ref 653)):=by kernel_rfl
section
variable {w:World}{p:Program}{loose:List Str}{mg mb:Str→Option Value}{c:Cx}{fr:Led}{ad:List Ad}{own tb fz:Led}{m:Str→Option Value}{s:Shared}{Q:Flow→Shared→Prop}{E:Value→Shared→Prop}{rest:List Stmt}
noncomputable abbrev loc0 (a:Addr):List (Str × AV):=[("script",.gref a)]
noncomputable abbrev loc1 (a:Addr):List (Str × AV):=[("script",.gref a),("source",.hnd 0)]
theorem src_call (C:LawC w p loose mg mb c) {a:Addr}{vs:List Value}{ns:List Int}{p2 p3 p4:Pos}(hl:c.h₀.IsList a vs.toArray) (hi:IntsAre vs ns) (hn:ns.length≤63) (hcl:∀ q∈tb++(fr++fz),q.2.cls=.none) (I:IL w p loose mg mb fr c (loc0 a) [] [] [] tb fz m s) :
  Sd (model pw_pc0148_01 w) (UL w p loose mg mb) (KF w.params) w.params tis fr (RX1 tis) c [] fz (VR (KF w.params) w.params) (eval (.Call (.Name "_law_source" p2) [.Name "script" p3] [] p4) c.env) (ok (.hnd 0) ⟨loc0 a,[.src []]⟩) s:=by
 show wpAny _ _ _ _ _ _
 have FC:=(baseN (w:=w) (p:=p) (loose:=loose) (mg:=mg) (mb:=mb) 0 tis).FC
 obtain ⟨v,hv1,hv2⟩:=(I.lo "script" (.gref a) rfl).1 (zqf (C.loc (by decide)))
 replace hv2:=hv2.inv;cases hv2
 rw [arm_eval_Call_Name']
 refine wpAny_bind (nameX_K I.F C.Y.X C.Y.T (source_is _) ?_ C.kf (zxj (C.gl (by decide))) (by decide))
 refine zzp rfl ?_
 rw [zqe (e:=.Name _ _) rfl]
 refine spliced_cons (nameX_L I.F hv1 ?_ C.kf (zqf (C.loc (by decide))) (by decide))
 refine spliced_nil ⟨zxn FC C.Y.X (f:=.gref 653) (by kernel_rfl) I (.gref 653),?_⟩
 obtain ⟨mean,T⟩:=C.Y.top
 have dep:=C.Y.dep
 have un:=C.Y.un
 have nd0:=I.nd
 have lt:=I.lt
 rw [zkt C.Y.hh C.Y.hA]
 refine wpAny_call (codeAny_mono (src_653 w (R:=λ r s'=>match r with | .ok (.ret u)=>OkP (UL w p loose mg mb) (KF w.params) w.params tis fr c [] fz (VR (KF w.params) w.params) (.hnd 0) ⟨loc0 a,[.src []]⟩ u s' | _=>False)
  C.Y.B C.Y.X T I.F I.N C.kf (by omega) (by omega) hl hi hn λ h' tk src cl t cs ns' n F' N' hi' hne hl' l1 l2=>?_) λ r s' z=>?_)
 ·have pm:([(src,listOf #[.ref cl,.int 0 t] 0)]++(tb++(fr++((cl,listOf cs.toArray n)::fz)))).Perm ((src,listOf #[.ref cl,.int 0 t] 0)::(cl,listOf cs.toArray n)::([]++(tb++(fr++fz)))):=by
   refine .cons _ ?_
   show (tb++(fr++((cl,listOf cs.toArray n)::fz))).Perm ((cl,listOf cs.toArray n)::(tb++(fr++fz)))
   rw [← List.append_assoc,← List.append_assoc]
   exact List.perm_middle
  have hs:fz⊆(cl,listOf cs.toArray n)::fz:=λ _ h=>.tail _ h
  have hlt:∀ q∈[]++(tb++(fr++fz)),q.1 < src:=by
   have key:∀ {l:Led},AllLt src l→∀ q∈l,q.1 < src:=by
    intro l
    induction l with
    | nil=>intro _ q hq;cases hq
    | cons x r ih=>
     intro h q hq
     rcases List.mem_cons.mp hq with rfl | hq
     ·exact h.1
     ·exact ih h.2 q hq
   exact key l2
  refine ⟨[⟨src,0,cl,λ _=>0,0⟩],[(src,listOf #[.ref cl,.int 0 t] 0)],tb,(cl,listOf cs.toArray n)::fz,m,⟨_,rfl⟩,hs,⟨F',λ q hq=>N' q (pm.mem_iff.mp hq),(pm.map _).nodup_iff.mpr ?_,?_,I.tb.mono hs,I.lo.mono ⟨_,rfl⟩ hs,I.og⟩,.hnd (x:=⟨src,0,cl,λ _=>0,0⟩) rfl⟩
  ·refine List.nodup_cons.mpr ⟨λ h=>?_,List.nodup_cons.mpr ⟨λ h=>?_,nd0⟩⟩
   ·rcases List.mem_cons.mp h with e | h
    ·exact absurd e (Nat.ne_of_gt l1)
    ·obtain ⟨q,hq,e⟩:=List.mem_map.mp h
     exact absurd e (Nat.ne_of_lt (hlt q hq))
   ·obtain ⟨q,hq,e⟩:=List.mem_map.mp h
    have e1:=(N' (cl,listOf cs.toArray n) (.tail _ (.head _))).1
    have e2:=(N' q (.tail _ (.tail _ hq))).1
    have e:q.1=cl:=e
    rw [e] at e2
    have e3:=e2.symm.trans e1
    have e4:=hcl q hq
    rw [Option.some.inj e3] at e4
    cases e4
  ·exact OWs.cons (.src (x:=⟨src,0,cl,λ _=>0,0⟩) (tp:=[]) (at_:=0) (n:=0) (.head _) hi' hne (by omega) (show (0:Nat)=0 from rfl)) .nil
 ·cases r with
  | error e=>exact z.elim
  | ok fl=>cases fl<;>first | exact z | exact z.elim
theorem law_S1 (C:LawC w p loose mg mb c) {a:Addr}{vs:List Value}{ns:List Int}(hl:c.h₀.IsList a vs.toArray) (hi:IntsAre vs ns) (hn:ns.length≤63) (hcl:∀ q∈tb++(fr++fz),q.2.cls=.none) (I:IL w p loose mg mb fr c (loc0 a) [] [] [] tb fz m s)
  (k:∀ s' x own tb fz' m',fz⊆fz'→IL w p loose mg mb fr c (loc1 a) [.src []] [x] own tb fz' m' s'→wpAny (model pw_pc0148_01 w) c.A (execs (L83 1) c.env) Q E s'):wpAny (model pw_pc0148_01 w) c.A (execs (L83 0) c.env) Q E s:=by
 have hX:RXm (RX1 tis):=λ c=>rx_m _ _ c
 have e:=s83_0
 rw [e]
 refine zq7 (zjy (q:=⟨581,4,581,10⟩) (pos:=⟨581,4,581,32⟩) hX C.kf (C.loc (by decide)) rfl (src_call C hl hi hn hcl I)) λ s' ad' own' tb' fz' m' hp hf I'=>?_
 have hlen:ad'.length=1:=I'.ow.length
 obtain ⟨x,rfl⟩:=List.length_eq_one_iff.mp hlen
 exact k s' x own' tb' fz' m' hf I'
theorem retape {a:Addr}{x:Ad}(I:IL w p loose mg mb fr c (loc1 a) [.src []] [x] own tb fz m s) :
  ∃ (X:Sx) (j k:Nat) (x':Ad),GdS 1 X∧fnS X=405∧j < 9∧k < (owS X).length ∧
   IL w p loose mg mb fr c (loc1 a) [.src [.call 743 1 (rB (stW (owS X)) (trS X) (zxd X)),.call 715 0 (rM (stW (smW j)) (smT j)),.draw (Int.ofNat (owS X).length) (Int.ofNat k)]] [x'] own tb fz m s:=by
 have ow:=I.ow
 replace ow:=ow.inv;cases ow with | cons o1 o2=>
 replace o2:=o2.inv;cases o2
 replace o1:=o1.inv;cases o1 with | src b1 b2 b3 b4 b5=>
 rename_i at0 ns0 cs0 nn n0 tk0
 obtain ⟨X,b,g,hf,h1⟩:=mk_top (w:=w) (p:=p) (loose:=loose) (mg:=mg) (mb:=mb) ns0 at0
 obtain ⟨j,b',hj,h2⟩:=mk_sm (w:=w) (p:=p) (loose:=loose) (mg:=mg) (mb:=mb) ns0 b
 have hlen:0 < (owS X).length:=by
  obtain ⟨h0,t0,_,_,ew⟩:=zjr X g.ok
  cases q:owS X with
  | nil=>rw [q] at ew;cases ew
  | cons _ _=>simp
 obtain ⟨k,hk,e⟩:=zxt ns0 b' (owS X).length hlen
 let y:Ad:={ x with z:=λ _=>0,n:=b' + 1 }
 refine ⟨X,j,k,y,g,hf,hj,hk,I.F,I.N,I.nd,?_,I.tb,I.lo.map λ _ _ e=>LocF.look (.cons (.any λ _ _ _ _ _ h=>by replace h:=h.inv;cases h;exact .gref _) (.cons (HdF.hnd (x:=x) (y:=y) rfl rfl rfl) .nil)) e,I.og⟩
 exact OWs.cons (.src (x:=y) b1 b2 b3 b4 ⟨b,h1,b',GenB.le (by decide) h2,by show (0:Int) < Int.ofNat _;simp;omega,e,rfl⟩) .nil
end
end
section
section
variable {w:World}{p:Program}{loose:List Str}{mg mb:Str→Option Value}{c:Cx}{tb:Led}{m:Str→Option Value}{s:Shared}{Q:Flow→Shared→Prop}{E:Value→Shared→Prop}
theorem law_main (C:LawC w p loose mg mb c) {c₀:Addr}(hcd:c.ccd=.ref c₀) (CH:CodeHd c.h₀ c₀ 745) {a:Addr}{vs:List Value}{ns:List Int}(hl:c.h₀.IsList a vs.toArray) (hi:IntsAre vs ns) (hn:ns.length≤63) (hcl:∀ q∈tb++([(745,tabObj #[])]++[]),q.2.cls=.none)
  (I:IL w p loose mg mb [(745,tabObj #[])] c (loc0 a) [] [] [] tb [] m s)
  (k:∀ s' fz' m' ps,GrT tis fz'→Fr c.h₀ c.L s'.heap m'→News c.h₀ c.L s'.heap ((745,tabObj ps)::fz')→(s'.os,s'.gens,s'.drawn)=c.og→Q (.ret (.bool true)) s'):wpAny (model pw_pc0148_01 w) c.A (execs (L83 0) c.env) Q E s:=by
 refine law_S1 C hl hi hn hcl I λ s1 x1 own1 tb1 fz1 m1 hf1 I1=>?_
 obtain ⟨X,j,n,x',g,hf5,hj,hk,I2⟩:=retape I1
 have hlen:(owS X).length≤1900:=Nat.le_trans g.len (by decide)
 have hh:hS X≤7:=g.h
 refine law_S2 C I2 λ s2 ad2 own2 tb2 fz2 m2 _ I3=>?_
 refine law_S3 C g.ok hh (by omega) hf5 I3 λ s3 ad3 own3 tb3 fz3 m3 _ I4=>?_
 refine law_S4 C I4 λ s4 ad4 own4 tb4 fz4 m4 _ I5=>?_
 refine law_S5 C hj (zz7 X) I5 λ s5 x5 z5 own5 tb5 fz5 m5 _ hz I6=>?_
 refine law_S6 C hj hz I6 λ s6 ad6 own6 tb6 fz6 m6 o1 junk _ I7=>?_
 refine law_S7 C (by omega) I7 λ s7 tb7 fz7 m7 _ I8=>?_
 refine law_S8 C g.ok hh hlen hk I8 λ s8 fz8 m8 G I9=>?_
 refine law_S9 C I9 λ s9 fz9 m9 hf9 I10=>?_
 refine law_S10 C hcd CH I10 λ s10 fz10 m10 ps hf10 F N og=>k s10 fz10 m10 ps (G.mono λ _ h=>hf10 (hf9 h)) F N og
end
end
section
theorem keys_is (P:Params):keysF=(KF P).map (·.1):=by kernel_rfl
theorem hd_rp {w:World}{h:Heap}(X:(KF w.params).In h):CodeHd h 236 232:=codeHd_of_K X (by kernel_rfl)
theorem hd_rc {w:World}{h:Heap}(X:(KF w.params).In h):CodeHd h 383 379:=codeHd_of_K X (by kernel_rfl)
theorem hd_law {w:World}{h:Heap}(X:(KF w.params).In h):CodeHd h 747 745:=codeHd_of_K X (by kernel_rfl)
theorem tab_law (P:Params):tabIn (KF P) "law" = some (747,745):=by kernel_rfl
noncomputable abbrev tabsL:List (Addr × Addr):=[(236,232),(383,379),(747,745)]
noncomputable abbrev cxL (g:Heap) (L fa:Addr) (og:OsState × Array GenState × Drawn):Cx:=
 { A:=callerA.deeper (envOf lawD.name lawD.scope L fa (.ref 747)),A₀:=callerA,base:=g,h₀:=g,outer:=[],L:=L,a:=fa,cn:=lawD.name,sc:=lawD.scope,ccd:=.ref 747,cl:=[],og:=og }
theorem noTabs_K (P:Params):noTabs (KF P)=true:=by kernel_rfl
theorem law_site:zxe lawD.scope=none:=by kernel_rfl
theorem law_kind:lawD.scope.kind=.function:=by kernel_rfl
theorem un_law (e:Env):(callerA.deeper e).units + 4 * 620≤9700:=by
 simp only [Around.deeper,callerA]
 try decide +kernel
 try omega
theorem lawC_of {w:World}{p:Program}{loose:List Str}{mg mb:Str→Option Value}{mean:ExcName→Option Value}{g:Heap}{L fa:Addr}{og:OsState × Array GenState × Drawn}(B:Below callerA g [] g) (X:(KF w.params).In g) (T:Top p loose mean mg mb g):LawC w p loose mg mb (cxL g L fa og) where
 Y:=⟨B,X,topRead_of T,Around.frames_deeper rfl,rfl,by show (callerA.deeper _).depth + 620≤990;simp only [depth_deeper,depth_caller];decide,un_law _,law_kind,⟨mean,T⟩,X,λ i h=>by rw [law_site] at h;cases h⟩
 out:=rfl
 cl:=rfl
 sc:=rfl
 TB:=topRead_of T
theorem lawB:lawD.body=L83 0:=by unfold L83;rfl
theorem grown_of {h₀ h:Heap}{L:Addr}{ps:Array Value}{fz:Led}(G:GrT tis fz) (N:News h₀ L h ((745,tabObj ps)::fz)):GrownAll tabsL h:=by
 obtain ⟨tbl,g,hs⟩:=G
 unfold tis at g
 cases g with | cons g=>
 cases g with | cons g=>
 cases g
 exact ⟨⟨_,(N _ (.tail _ (hs (.head _)))).1⟩,⟨_,(N _ (.tail _ (hs (.tail _ (.head _))))).1⟩,⟨_,(N _ (.head _)).1⟩,trivial⟩
theorem law_run {w:World}{p:Program}{loose:List Str}{mg mb:Str→Option Value}{mean:ExcName→Option Value}{g h₁:Heap}{L fa a:Addr}{m:Str→Option Value}{s:Shared}{tk:Nat}{vs:List Value}{ns:List Int}{Q:Flow→Shared→Prop}{E:Value→Shared→Prop}
  (B:Below callerA g [] g) (X:(KF w.params).In g) (T:Top p loose mean mg mb g) (F:Fr g L h₁ m) (hm:m "script" = some (.ref a)) (N:News g L h₁ (tabNews tabsL)) (CH:CodeHd g 747 745) (hl:g.IsList a vs.toArray) (hi:IntsAre vs ns) (hn:ns.length≤63)
  (k:∀ h' m' gs dr os tk,GrownAll tabsL h'→Fr g L h' m'→(os,gs,dr)=(s.os,s.gens,s.drawn)→Q (.ret (.bool true)) ⟨h',gs,dr,tk,os⟩) :
  wpAny (model pw_pc0148_01 w) (callerA.deeper (envOf lawD.name lawD.scope L fa (.ref 747))) (execs lawD.body (envOf lawD.name lawD.scope L fa (.ref 747))) Q E { s with heap:=h₁,toks:=tk }:=by
 have C:=lawC_of (w:=w) (L:=L) (fa:=fa) (og:=(s.os,s.gens,s.drawn)) B X T
 have I:IL w p loose mg mb [(745,tabObj #[])] (cxL g L fa (s.os,s.gens,s.drawn)) (loc0 a) [] [] [] [(232,tabObj #[]),(379,tabObj #[])] [] m { s with heap:=h₁,toks:=tk }:=
  ⟨F,N,by decide,.nil,.cons (.inl rfl) (.cons (.inl rfl) .nil),(λ x v e=>by
   rcases zxw e with ⟨rfl,rfl⟩ | e
   ·exact ⟨λ _=>⟨_,hm,.gref a⟩,λ q=>by
     have h:(cxL g L fa (s.os,s.gens,s.drawn)).sc.names.lookup ("script":Str)=some .local:=zqf (C.loc (by decide))
     rw [h] at q
     rcases q with q | q<;>cases q⟩
   ·cases e),rfl⟩
 rw [lawB]
 exact law_main C rfl CH hl hi hn (by decide) I λ s' fz' m' ps G F N og=>by
  obtain ⟨h',gs,dr,tk,os⟩:=s'
  exact k h' m' gs dr os tk (grown_of G N) F og
theorem callX:WalkX zq5 zx7 (λ _ _=>True) obsF valF rw_pc0148_01.row.toRowW lawD [] λ f vs=>PySem.call f vs:=by
 intro w s₀ s₁ mg mb G Y fa o pm cd doc dV kV ho hd hcd hD hmg hg args vals as L hpre hlay hrd hwl hlo
 have Y':=Prod.mk.inj Y
 have X0:(KF w.params).In s₀.heap:=InK.of (K:=KF) (as:=keysF) keys_is w s₀ Y'.1
 have X:(KF w.params).In s₁.heap:=Frag.In.keeps X0 L.keeps
 have hT8:∀ P∈tabsF,s₁.heap.get? P=some (tabObj #[]):=λ P hP=>L.keeps _ _ ((List.map_inj_left.mp Y'.2) P hP)
 have hT9:TabsAt [(236,232),(383,379),(747,745)] s₁.heap:=List.forall_mem_cons.mpr ⟨⟨hd_rp X,hT8 232 (.head _)⟩,List.forall_mem_cons.mpr ⟨⟨hd_rc X,hT8 379 (.tail _ (.head _))⟩,List.forall_mem_cons.mpr ⟨⟨hd_law X,hT8 745 (.tail _ (.tail _ (.head _)))⟩,λ _ h=>nomatch h⟩⟩⟩
 clear hT8 X0 Y Y'
 refine Ground.open G ?_
 intro T B D TE TW
 have he9:cd=.ref 747:=law_code (x := "law") (c:=747) (P:=745) X T.g (tab_law _) hmg ho hd
 subst he9
 clear hmg
 wrow_args hpre hlay hrd hwl hlo
 rename_i ns hs hlay0 hL1 hr1 hl2 as1 as2 a vs as3 hL ra w1 r0 hI hr hc1 hc2
 have hn:ns.length≤63:=by omega
 refine enter_call ?_
 refine kn_post hT9 (λ _ _=>rfl) ?_
 have he:=Dflts.none hD rfl;subst he
 refine call_fullW (binds:=[("script",.ref a)]) (by decide) ho hd (Top.nolimit T) hcd (BindsTo.of_eq rfl) (locs rfl) λ h₁ F=>?_
 have T':=ghost_top hT9 T
 have X':=ghost_K hT9 X (noTabs_K _)
 have F':=ghost_fr hT9 F
 have N':=ghost_news hT9 F (News.nil:News _ _ _ [])
 have CH:CodeHd (ghostOf s₁.heap tabsL) 747 745:=(ghost_code hT9).2.2.1
 refine law_run (s:=s₁) (ghost_below hT9) X' T' F' rfl N' CH (ghost_list hT9 hL) hI hn λ h' m' gs dr os tk hgr F2 og=>?_
 obtain ⟨rfl,e2⟩:=Prod.mk.inj og
 obtain ⟨rfl,rfl⟩:=Prod.mk.inj e2
 refine ⟨goodW_bool (L:=s₁.heap.objs.size) (m:=m') F2 hg (raisesW_false ?_) ?_,hgr⟩
 ·wrow_none_raised
 ·wrow_post
end
end AI
end Mine
end
theorem PySem.Challenge.cw_pc0148_01_holds : PySem.Challenge.rw_pc0148_01.Holds :=
  Mine.holdsF Mine.AI.callX
