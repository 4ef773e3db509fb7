import PyProof.Rows.All
import Wide.All
import OpenK.AllK
import Wide.FinOn
import Lean
import PySem.Challenge.RW_pq0708_01
set_option Elab.async false
set_option linter.all false
set_option maxRecDepth 100000
set_option tactic.hygienic false
set_option backward.match.sparseCases false
noncomputable section
open List (mem_cons_self mem_cons_of_mem mem_singleton mem_append_left mem_append_right mem_append mem_cons length_map size_toArray length_append map_append append_nil append_assoc not_mem_nil)
section
set_option genSizeOf false
set_option genInjectivity false
namespace Mine
open PySem
theorem u1 {x a b:Nat}(h:x≤a)(q:Nat.ble a b=true):x≤b:=Nat.le_trans h (Nat.le_of_ble_eq_true q)
theorem u2 {n k a b:Nat}(h:a≤n+k)(q:Nat.ble (b+k) a=true):b≤n:=Nat.le_of_add_le_add_right (Nat.le_trans (Nat.le_of_ble_eq_true q) h)
theorem u3 {n a b:Nat}(h:a≤n)(q:Nat.ble b a=true):n=n - b+b:=(Nat.sub_add_cancel (Nat.le_trans (Nat.le_of_ble_eq_true q) h)).symm
theorem u4 {n k a b:Nat}(h:a≤n+k)(q:Nat.ble (b+k) a=true):n=n - b+b:=(Nat.sub_add_cancel (u2 h q)).symm
theorem u5 {x a b:Nat}(h:x≤a)(q:Nat.ble (a+1) b=true):x<b:=Nat.lt_of_le_of_lt h (Nat.le_of_ble_eq_true q)
theorem u6 {x y a b:Nat}(e:y=x)(h:x≤a)(q:Nat.ble a b=true):y≤b:=e▸u1 h q
theorem u7 {x y a b:Nat}(h:x≤y)(k:y≤a)(q:Nat.ble a b=true):x≤b:=Nat.le_trans h (u1 k q)
theorem u9 {x k a b:Nat}(h:x≤a)(q:Nat.ble (a+k) b=true):x+k≤b:=Nat.le_trans (Nat.add_le_add_right h k) (Nat.le_of_ble_eq_true q)
theorem sj {x y a b:Nat}(h:x+y≤a)(q:Nat.ble a b=true):x≤b:=Nat.le_trans (Nat.le_add_right x y) (u1 h q)
theorem eq_18 {x y a b:Nat}(h:x+y≤a)(q:Nat.ble a b=true):y≤b:=Nat.le_trans (Nat.le_add_left y x) (u1 h q)
theorem eq_138 {x y a b c:Nat}(h:x≤a)(k:y≤b)(q:Nat.ble (a+b) c=true):x+y≤c:=Nat.le_trans (Nat.add_le_add h k) (Nat.le_of_ble_eq_true q)
theorem eq_463 {x a b:Nat}(h:x<a)(q:Nat.ble a b=true):x<b:=Nat.lt_of_lt_of_le h (Nat.le_of_ble_eq_true q)
theorem rq {a b:Nat}(h:a<b):b=b - 1+1:=(Nat.sub_add_cancel (Nat.succ_le_of_lt (Nat.lt_of_le_of_lt (Nat.zero_le a) h))).symm
theorem re {t s L R:Nat}(h:L≤R)(q:t+R≤s+L):t≤s:=Nat.le_of_add_le_add_right (Nat.le_trans q (Nat.add_le_add_left h s))
theorem rZ {t s L R:Nat}(h:L≤R)(q:t+1+R≤s+L):t<s:=re h q
theorem aT {a b:Bool}(h:(a&&b)=true):a=true∧b=true:=Bool.and_eq_true_iff.mp h
theorem aI {a b:Bool}(h:a=true)(k:b=true):(a&&b)=true:=Bool.and_eq_true_iff.mpr ⟨h,k⟩
theorem oT {a b:Bool}(h:(a||b)=true):a=true∨b=true:=(Bool.or_eq_true a b).mp h
theorem oL {a b:Bool}(h:a=true):(a||b)=true:=by rw[h];rfl
theorem oR {a b:Bool}(h:b=true):(a||b)=true:=by rw[h];exact Bool.or_true a
theorem qZ {a b:Nat}(h:Nat.ble a b=true):a≤b:=Nat.le_of_ble_eq_true h
theorem ff {P:Prop}(h:false=true):P:=Bool.noConfusion h
inductive Dc (P:Prop) where
 | yes (h:P)
 | no
noncomputable def Dc.ok {P:Prop}(x:Dc P):Bool:=Dc.rec (fun J=>true) false x
theorem Dc.get {P:Prop}{x:Dc P}(h:x.ok=true):P:=Dc.rec (motive:=fun x=>x.ok=true→P) (fun p J=>p) (fun h=>Bool.noConfusion h) x h
noncomputable def Dc.bi {P Q:Prop}(x:Dc P)(k:P→Dc Q):Dc Q:=Dc.rec (fun h=>k h) .no x
noncomputable def Dc.or {P:Prop}(x y:Dc P):Dc P:=Dc.rec (fun h=>.yes h) y x
noncomputable def gy {P:Prop}(b:Bool)(k:b=true→Dc P):Dc P:=Bool.rec (motive:=fun c=>b=c→Dc P) (fun J=>.no) k b rfl
noncomputable def gn {P:Prop}(b:Bool)(k:b=false→Dc P):Dc P:=Bool.rec (motive:=fun c=>b=c→Dc P) k (fun J=>.no) b rfl
noncomputable def fh {α:Type} [DecidableEq α](a b:α){P:α→Prop}(k:Dc (P a)):Dc (P b):=dite (a=b) (fun h=>h▸k) fun J=>.no
noncomputable def pE {α:Type}{P:List α→Prop}(l:List α)(nil:Dc (P []):=.no)(cons:∀ a r,Dc (P (a::r)):=fun J J=>.no):Dc (P l):=List.casesOn l nil cons
noncomputable def qr {α:Type}{P:Option α→Prop}(o:Option α)(none:Dc (P none):=.no)(some:∀ a,Dc (P (some a)):=fun J=>.no):Dc (P o):=Option.casesOn o none some
noncomputable def o9 {P:Const→Prop}(c:Const)(none:Dc (P .none):=.no)(bool:∀ b,Dc (P (.bool b)):=fun J=>.no)(int:∀ b,Dc (P (.int b)):=fun J=>.no)(str:∀ b,Dc (P (.str b)):=fun J=>.no):Dc (P c):=
 Const.casesOn c none bool int (fun J=>.no) (fun J J=>.no) str (fun J=>.no) .no
noncomputable def ku {P:Expr→Prop}(e:Expr)(bop:∀ o es p,Dc (P (.BoolOp o es p)):=fun J J J=>.no)(bin:∀ a o b p,Dc (P (.BinOp a o b p)):=fun J J J J=>.no)(un:∀ o a p,Dc (P (.UnaryOp o a p)):=fun J J J=>.no)(ife:∀ a b c p,Dc (P (.IfExp a b c p)):=fun J J J J=>.no)
  (dic:∀ a b p,Dc (P (.Dict a b p)):=fun J J J=>.no)(lc:∀ a b c p,Dc (P (.ListComp a b c p)):=fun J J J J=>.no)(cmp:∀ a b c p,Dc (P (.Compare a b c p)):=fun J J J J=>.no)(cal:∀ a b c p,Dc (P (.Call a b c p)):=fun J J J J=>.no)
  (con:∀ a b p,Dc (P (.Constant a b p)):=fun J J J=>.no)(att:∀ a b p,Dc (P (.Attribute a b p)):=fun J J J=>.no)(sub:∀ a b p,Dc (P (.Subscript a b p)):=fun J J J=>.no)(nam:∀ a p,Dc (P (.Name a p)):=fun J J=>.no)
  (lis:∀ a p,Dc (P (.List a p)):=fun J J=>.no)(tup:∀ a b p,Dc (P (.Tuple a b p)):=fun J J J=>.no)(slc:∀ a b c p,Dc (P (.Slice a b c p)):=fun J J J J=>.no):Dc (P e):=
 @Expr.casesOn (fun e=>Dc (P e)) e bop (fun J J J=>.no) bin un (fun J J J J=>.no) ife dic (fun J J J=>.no) lc (fun J J J J=>.no) (fun J J J J J=>.no) (fun J J J J=>.no) (fun J J=>.no) (fun J J=>.no) (fun J J=>.no) cmp cal
  (fun J J J J=>.no) (fun J J=>.no) con att sub (fun J J=>.no) nam lis tup slc
noncomputable def ow {P:Stmt→Prop}(e:Stmt)(ret:∀ a p,Dc (P (.Return a p)):=fun J J=>.no)(asg:∀ a b p,Dc (P (.Assign a b p)):=fun J J J=>.no)(fro:∀ a b c d p,Dc (P (.For a b c d p)):=fun J J J J J=>.no)(whl:∀ a b c p,Dc (P (.While a b c p)):=fun J J J J=>.no)
  (iff:∀ a b c p,Dc (P (.If a b c p)):=fun J J J J=>.no)(exp:∀ a p,Dc (P (.Expr a p)):=fun J J=>.no):Dc (P e):=
 @Stmt.casesOn (fun e=>Dc (P e)) e (fun J J J J J J J J J J=>.no) (fun J J J J J J J J J J=>.no) (fun J J J J J J J J J J J=>.no) ret (fun J J=>.no) asg (fun J J J J J J J=>.no) (fun J J J J=>.no) (fun J J J J J=>.no) fro (fun J J J J J=>.no) whl iff (fun J J J=>.no)
  (fun J J J=>.no) (fun J J J=>.no) (fun J J J=>.no) (fun J J J J J=>.no) (fun J J J J J=>.no) (fun J J J=>.no) (fun J J=>.no) (fun J J J J=>.no) (fun J J=>.no) (fun J J=>.no) exp (fun J=>.no) (fun J=>.no) (fun J=>.no)
noncomputable def oJ {P:Value→Prop}(v:Value)(none:Dc (P .none):=.no)(bool:∀ b,Dc (P (.bool b)):=fun J=>.no)(int:∀ i t,Dc (P (.int i t)):=fun J J=>.no)(str:∀ s t,Dc (P (.str s t)):=fun J J=>.no)(ref:∀ a,Dc (P (.ref a)):=fun J=>.no):Dc (P v):=
 Value.casesOn v none .no .no bool int (fun J J=>.no) str (fun J J=>.no) (fun J=>.no) (fun J=>.no) ref
noncomputable def l9 {P:Const→Prop}(e:Const)(k:∀ b,Dc (P (.bool b))):Dc (P e):=o9 e (bool:=k)
noncomputable def lu {P:Const→Prop}(e:Const)(k:∀ b,Dc (P (.int b))):Dc (P e):=o9 e (int:=k)
noncomputable def jR {P:Const→Prop}(e:Const)(k:Dc (P .none)):Dc (P e):=o9 e (none:=k)
noncomputable def m3 {P:Const→Prop}(e:Const)(k:∀ b,Dc (P (.str b))):Dc (P e):=o9 e (str:=k)
noncomputable def jj {P:Expr→Prop}(e:Expr)(k:∀ a b p,Dc (P (.Attribute a b p))):Dc (P e):=ku e (att:=k)
noncomputable def m4 {P:Expr→Prop}(e:Expr)(k:∀ a o b p,Dc (P (.BinOp a o b p))):Dc (P e):=ku e (bin:=k)
noncomputable def m5 {P:Expr→Prop}(e:Expr)(k:∀ o es p,Dc (P (.BoolOp o es p))):Dc (P e):=ku e (bop:=k)
noncomputable def jk {P:Expr→Prop}(e:Expr)(k:∀ a b c p,Dc (P (.Call a b c p))):Dc (P e):=ku e (cal:=k)
noncomputable def m6 {P:Expr→Prop}(e:Expr)(k:∀ a b c p,Dc (P (.Compare a b c p))):Dc (P e):=ku e (cmp:=k)
noncomputable def d8 {P:Expr→Prop}(e:Expr)(k:∀ a b p,Dc (P (.Constant a b p))):Dc (P e):=ku e (con:=k)
noncomputable def m7 {P:Expr→Prop}(e:Expr)(k:∀ a b p,Dc (P (.Dict a b p))):Dc (P e):=ku e (dic:=k)
noncomputable def m8 {P:Expr→Prop}(e:Expr)(k:∀ a b c p,Dc (P (.IfExp a b c p))):Dc (P e):=ku e (ife:=k)
noncomputable def kC {P:Expr→Prop}(e:Expr)(k:∀ a b c p,Dc (P (.ListComp a b c p))):Dc (P e):=ku e (lc:=k)
noncomputable def lw {P:Expr→Prop}(e:Expr)(k:∀ a p,Dc (P (.List a p))):Dc (P e):=ku e (lis:=k)
noncomputable def da {P:Expr→Prop}(e:Expr)(k:∀ a p,Dc (P (.Name a p))):Dc (P e):=ku e (nam:=k)
noncomputable def m9 {P:Expr→Prop}(e:Expr)(k:∀ a b c p,Dc (P (.Slice a b c p))):Dc (P e):=ku e (slc:=k)
noncomputable def jl {P:Expr→Prop}(e:Expr)(k:∀ a b p,Dc (P (.Subscript a b p))):Dc (P e):=ku e (sub:=k)
noncomputable def eV {P:Expr→Prop}(e:Expr)(k:∀ a b p,Dc (P (.Tuple a b p))):Dc (P e):=ku e (tup:=k)
noncomputable def ma {P:Expr→Prop}(e:Expr)(k:∀ o a p,Dc (P (.UnaryOp o a p))):Dc (P e):=ku e (un:=k)
noncomputable def aL {α:Type}{P:List α→Prop}(e:List α)(k:∀ a r,Dc (P (a::r))):Dc (P e):=pE e (cons:=k)
noncomputable def aK {α:Type}{P:List α→Prop}(e:List α)(k:Dc (P [])):Dc (P e):=pE e (nil:=k)
noncomputable def dc {α:Type}{P:Option α→Prop}(e:Option α)(k:Dc (P none)):Dc (P e):=qr e (none:=k)
noncomputable def cC {α:Type}{P:Option α→Prop}(e:Option α)(k:∀ a,Dc (P (some a))):Dc (P e):=qr e (some:=k)
noncomputable def gV {P:Stmt→Prop}(e:Stmt)(k:∀ a b p,Dc (P (.Assign a b p))):Dc (P e):=ow e (asg:=k)
noncomputable def nf {P:Stmt→Prop}(e:Stmt)(k:∀ a p,Dc (P (.Expr a p))):Dc (P e):=ow e (exp:=k)
noncomputable def ng {P:Stmt→Prop}(e:Stmt)(k:∀ a b c d p,Dc (P (.For a b c d p))):Dc (P e):=ow e (fro:=k)
noncomputable def nh {P:Stmt→Prop}(e:Stmt)(k:∀ a b c p,Dc (P (.If a b c p))):Dc (P e):=ow e (iff:=k)
noncomputable def nj {P:Stmt→Prop}(e:Stmt)(k:∀ a p,Dc (P (.Return a p))):Dc (P e):=ow e (ret:=k)
noncomputable def nq {P:Stmt→Prop}(e:Stmt)(k:∀ a b c p,Dc (P (.While a b c p))):Dc (P e):=ow e (whl:=k)
noncomputable def mc {P:Value→Prop}(e:Value)(k:∀ b,Dc (P (.bool b))):Dc (P e):=oJ e (bool:=k)
noncomputable def nr {P:Value→Prop}(e:Value)(k:∀ i t,Dc (P (.int i t))):Dc (P e):=oJ e (int:=k)
noncomputable def mf {P:Value→Prop}(e:Value)(k:Dc (P .none)):Dc (P e):=oJ e (none:=k)
noncomputable def nt {P:Value→Prop}(e:Value)(k:∀ a,Dc (P (.ref a))):Dc (P e):=oJ e (ref:=k)
noncomputable def nu {P:Value→Prop}(e:Value)(k:∀ s t,Dc (P (.str s t))):Dc (P e):=oJ e (str:=k)
noncomputable def oK {α:Type}{P:Prop}(o:Option α)(k:∀ x,o=some x→Dc P):Dc P:=Option.rec (motive:=fun o'=>o=o'→Dc P) (fun J=>.no) k o rfl
noncomputable def ox {α:Type} [DecidableEq α]{P:Prop}(a b:α)(k:a=b→Dc P):Dc P:=dite (a=b) k fun J=>.no
noncomputable def cU:List Nat→Nat
 | []=>0
 | c::cs=>(c+1)+2097152*cU cs
noncomputable def nx:Nat→Nat→List Nat
 | 0,_=>[]
 | f+1,n=>bif n==0 then [] else (n % 2097152 - 1)::nx f (n / 2097152)
noncomputable def bx (n:Nat):List Nat:=nx n n
noncomputable def aJ (n:Nat):Str:=⟨(bx n).toArray⟩
noncomputable def bc (n:Nat):Bool:=cU (bx n)==n&&(bx n).all (·<0x110000)
noncomputable def pc (s:Str):Nat:=cU s.cps.toList
inductive D where
 | none
 | bool (b:Bool)
 | int (i:Int)
 | str (n:Nat)
 | tup (xs:List D)
 | lst (xs:List D)
mutual
noncomputable def D.eqv:D→D→Bool
 | .none,.none=>true
 | .bool a,.bool b=>a==b
 | .bool a,.int j=>(bif a then 1 else 0)==j
 | .int i,.bool b=>i==(bif b then 1 else 0)
 | .int i,.int j=>i==j
 | .str x,.str y=>x==y
 | .tup xs,.tup ys=>D.eqvs xs ys
 | .lst xs,.lst ys=>D.eqvs xs ys
 | _,_=>false
noncomputable def D.eqvs:List D→List D→Bool
 | [],[]=>true
 | x::xs,y::ys=>D.eqv x y&&D.eqvs xs ys
 | _,_=>false
end
mutual
noncomputable def D.sha:Nat→D→Bool
 | 0,_=>false
 | n+1,.tup xs=>D.shas n xs
 | n+1,.lst xs=>D.shas n xs
 | _+1,_=>true
noncomputable def D.shas:Nat→List D→Bool
 | _,[]=>true
 | n,x::xs=>D.sha n x&&D.shas n xs
end
inductive PV where
 | p (d:D)
 | mix (xs:List PV)
 | inst (c:Nat)(ns:List Nat)(vs:List PV)
 | dct (ks:List Nat)(vs:List PV)
 | ref (i:Nat)
noncomputable def eB:List PV→Option (List D)
 | []=>some []
 | .p d::r=>(eB r).map (d::·)
 | _::_=>none
mutual
noncomputable def PV.noRef:PV→Bool
 | .p _=>true
 | .mix xs=>PV.noRefs xs
 | .inst _ _ vs=>PV.noRefs vs
 | .dct _ vs=>PV.noRefs vs
 | .ref _=>false
noncomputable def PV.noRefs:List PV→Bool
 | []=>true
 | x::xs=>PV.noRef x&&PV.noRefs xs
end
inductive Cell where
 | list (xs:List PV)
 | inst (c:Nat)(ns:List Nat)(vs:List PV)
 | dict (ks:List Nat)(vs:List PV)
noncomputable abbrev ak:=List Cell
noncomputable abbrev aN:=List (Nat×PV)
inductive Tg where
 | one (x:Nat)
 | many (xs:List Nat)
inductive Sl where
 | upto | from_ | rev | revTo
inductive Blt where
 | len | list | tuple | dictOf | dictCopy | max | min | sum | str | int | keys
inductive Bme where
 | pop | append | extend | get | split | join
set_option genInjectivity false in
set_option genCtorIdx false in
inductive T where
 | nil
 | cons (h t:T)
 | con (d:D)
 | var (x:Nat)
 | glo (x:Nat)(d:D)
 | tup (es:T)
 | lis (m:Bool)(es:T)
 | dic (m:Bool)(kvs:T)
 | cmp (op:CmpOp)(r:Bool)(a b:T)
 | emp (neg l:Bool)(a:T)
 | isn (neg:Bool)(a:T)
 | bl (isOr:Bool)(es:T)
 | not (a:T)
 | bin (op:Operator)(m:Bool)(a b:T)
 | ife (t a b:T)
 | att (a:T) (x:Nat)
 | sub (a i:T)
 | slc (m:Bool)(k:Sl)(a i:T)
 | call (f:Nat)(as:T)
 | met (a:T) (x:Nat)(as:T)
 | blt (b:Blt)(m:Bool)(as:T)
 | bme (b:Bme)(a:T)(as:T)
 | srt (a:T) (f:Nat)
 | rng (a:T)
 | zip (a b:T)
 | cmp1 (m:Bool)(elt:T)(tg:Tg)(it cond:T)
 | cmp2 (elt:T)(t1:Tg)(i1:T)(t2:Tg)(i2:T)
 | asg (x:Nat)(e:T)
 | unp (xs:List Nat)(e:T)
 | ata (o:T) (x:Nat)(e:T)
 | asu (o i e:T)
 | exp (e:T)
 | iff (c a b:T)
 | whl (c b:T)
 | fro (tg:Tg)(it b:T)
 | ret (e:T)
 | rai
inductive Res where
 | next
 | ret (v:PV)
noncomputable abbrev b9:=Nat→List PV→ak→(PV→ak→Prop)→Prop
noncomputable def dX (vs:List PV):PV:=match eB vs with
 | some ds=>.p (.tup ds)
 | none=>.mix vs
abbrev bQ {α:Type}(o:Option α)(k:α→Prop):Prop:=match o with
 | some x=>k x
 | none=>False
abbrev pd (o:Option Cell)(k:List PV→Prop):Prop:=match o with
 | some (.list xs)=>k xs
 | _=>False
noncomputable def nQ:PV→Option D
 | .p d=>some d
 | _=>none
noncomputable def dI:D→Option Int
 | .int i=>some i
 | _=>none
noncomputable def dS:D→Option Nat
 | .str i=>some i
 | _=>none
noncomputable def dL:D→Option (List D)
 | .lst xs=>some xs
 | _=>none
noncomputable def dT:D→Option (List D)
 | .tup xs=>some xs
 | _=>none
noncomputable def jm (v:PV):Option (List D):=(nQ v).bind dT
noncomputable def jn (v:PV):Option (List D):=(nQ v).bind dL
noncomputable def dQ:D→Option (List D)
 | .tup xs=>some xs
 | .lst xs=>some xs
 | _=>none
noncomputable def jS (i:Int):Option Nat:=match i with
 | .ofNat n=>some n
 | _=>none
noncomputable def kB (v:PV):Option Int:=(nQ v).bind dI
noncomputable def mS (v:PV):Option Nat:=(nQ v).bind dS
def lO (m:Bool)(vs:List PV)(σ:ak)(K:PV→ak→Prop):Prop:=match m with
 | true=>K (.ref σ.length) (σ++[.list vs])
 | false=>bQ (eB vs) fun ds=>K (.p (.lst ds)) σ
def oM (m:Bool)(ds:List D)(σ:ak)(K:PV→ak→Prop):Prop:=match m with
 | true=>K (.ref σ.length) (σ++[.list (ds.map .p)])
 | false=>K (.p (.lst ds)) σ
noncomputable def ja (σ:ak):PV→Option D
 | .p d=>some d
 | .ref i=>match σ[i]? with
  | some (.list xs)=>(eB xs).map .lst
  | _=>none
 | _=>none
noncomputable def bw (σ:ak):PV→Option (List PV)
 | .p (.tup xs)=>some (xs.map .p)
 | .p (.lst xs)=>some (xs.map .p)
 | .mix xs=>some xs
 | .ref i=>match σ[i]? with
  | some (.list xs)=>some xs
  | _=>none
 | _=>none
noncomputable def mh:PV→Option (List PV)
 | .p (.tup xs)=>some (xs.map .p)
 | .mix xs=>some xs
 | _=>none
noncomputable def cJ (k:Nat):List Nat→List PV→Option PV
 | n::ns,v::vs=>bif n==k then some v else cJ k ns vs
 | _,_=>none
noncomputable def dC (k:Nat)(x:PV):List Nat→List PV→List Nat×List PV
 | n::ns,v::vs=>bif n==k then (n::ns,x::vs) else let r:=dC k x ns vs;(n::r.1,v::r.2)
 | _,_=>([k],[x])
noncomputable def hY (at_:Nat→Nat→Bool)(σ:ak) (x:Nat):PV→Option PV
 | .inst c ns vs=>bif at_ c x then cJ x ns vs else none
 | .ref i=>match σ[i]? with
  | some (.inst c ns vs)=>bif at_ c x then cJ x ns vs else none
  | _=>none
 | _=>none
noncomputable def bC (σ:ak):PV→Option (List Nat×List PV)
 | .dct ks vs=>some (ks,vs)
 | .ref i=>match σ[i]? with
  | some (.dict ks vs)=>some (ks,vs)
  | _=>none
 | _=>none
noncomputable def jb (σ:ak):PV→Option (Nat×List Nat)
 | .inst c ns _=>some (c,ns)
 | .ref i=>match σ[i]? with
  | some (.inst c ns _)=>some (c,ns)
  | _=>none
 | _=>none
noncomputable def qt (xs:List PV) (i:Int):Option PV:=match i with
 | .ofNat n=>bif Nat.ble n 1000000 then xs[n]? else none
 | .negSucc n=>bif Nat.ble n 1000000&&Nat.ble (n+1) xs.length then xs[xs.length - (n+1)]? else none
noncomputable def fF (σ:ak)(a i:PV):Option PV:=match i with
 | .p (.int k)=>(bw σ a).bind (qt · k)
 | .p (.str k)=>(bC σ a).bind fun d=>cJ k d.1 d.2
 | _=>none
noncomputable def de (x:Nat)(v:PV):aN→aN
 | []=>[(x,v)]
 | (y,w)::r=>bif y==x then (x,v)::r else (y,w)::de x v r
noncomputable def eG:List Nat→List PV→aN→aN
 | x::xs,v::vs,ρ=>eG xs vs (de x v ρ)
 | _,_,ρ=>ρ
noncomputable def br:Tg→List Nat
 | .one x=>[x]
 | .many xs=>xs
noncomputable def n0 (tg:Tg)(ρ:aN):Bool:=(br tg).all fun y=>(ρ.lookup y).isNone
noncomputable def bo (tg:Tg)(v:PV)(ρ:aN):Option aN:=match tg with
 | .one x=>some (de x v ρ)
 | .many xs=>match v with
  | .p (.tup ds)=>bif ds.length==xs.length then some (eG xs (ds.map .p) ρ) else none
  | .mix vs=>bif vs.length==xs.length then some (eG xs vs ρ) else none
  | _=>none
noncomputable def mi (at_:Nat→Nat→Bool)(σ:ak) (x:Nat)(v:PV):PV→Option ak
 | .ref i=>match σ[i]? with
  | some (.inst c ns vs)=>bif at_ c x&&Nat.ble ns.length 500 then (let r:=dC x v ns vs;some (σ.set i (.inst c r.1 r.2))) else none
  | _=>none
 | _=>none
noncomputable def jc (σ:ak)(a i v:PV):Option ak:=match a with
 | .ref j=>(nQ i).bind fun d=>match d with
  | .int n=>(jS n).bind fun n=>match σ[j]? with
   | some (.list xs)=>bif Nat.blt n xs.length&&Nat.ble n 1000000 then some (σ.set j (.list (xs.set n v))) else none
   | _=>none
  | .str k=>match σ[j]? with
   | some (.dict ks vs)=>bif Nat.ble ks.length 500 then (let r:=dC k v ks vs;some (σ.set j (.dict r.1 r.2))) else none
   | _=>none
  | _=>none
 | _=>none
noncomputable def dY (d:D)(xs:List D):Bool:=xs.any fun y=>D.eqv y d
def n3 (r:Bool)(a b:PV)(σ:ak)(K:Bool→Prop):Prop:=bQ (ja σ a) fun x=>bQ (ja σ b) fun y=>cond (D.sha 60 (bif r then y else x)) (K (D.eqv x y)) False
def pF (r:Bool)(a b:PV)(σ:ak)(K:Bool→Prop):Prop:=bQ (nQ a) fun x=>match bC σ b with
 | some d=>bQ (dS x) fun k=>K (d.1.any (·==k))
 | none=>bQ (ja σ b) fun y=>bQ (dQ y) fun ys=>cond (bif r then D.shas 60 ys else D.sha 60 x) (K (dY x ys)) False
def mU (a b:PV)(K:Int→Int→Prop):Prop:=bQ (kB a) fun x=>bQ (kB b) fun y=>K x y
def n4 (op:CmpOp)(r:Bool)(a b:PV)(σ:ak)(K:Bool→Prop):Prop:=match op with
 | .Eq=>n3 r a b σ K
 | .NotEq=>n3 r a b σ fun c=>K (!c)
 | .In=>pF r a b σ K
 | .NotIn=>pF r a b σ fun c=>K (!c)
 | .Lt=>mU a b fun x y=>K (decide (x<y))
 | .LtE=>mU a b fun x y=>K (decide (x≤y))
 | .Gt=>mU a b fun x y=>K (decide (y<x))
 | .GtE=>mU a b fun x y=>K (decide (y≤x))
 | _=>False
noncomputable def dD (i:Int):Bool:=Nat.ble i.natAbs 4611686018427387904
noncomputable def dg (a b:Nat):Nat:=cU (bx a++bx b)
noncomputable def lP:PV→Bool
 | .p d=>match d with
  | .lst _=>true
  | _=>false
 | .ref _=>true
 | _=>false
def n5 (m:Bool)(a b:PV)(σ:ak)(K:PV→ak→Prop):Prop:=cond (lP a&&lP b) (bQ (bw σ a) fun xs=>bQ (bw σ b) fun ys=>cond (Nat.ble (xs.length+ys.length) 100000) (lO m (xs++ys) σ K) False) False
def ny (op:Operator)(m:Bool)(a b:PV)(σ:ak)(K:PV→ak→Prop):Prop:=match op with
 | .Add=>match a with
  | .p d=>match d with
   | .int x=>bQ (kB b) fun y=>K (.p (.int (x+y))) σ
   | .str x=>bQ (mS b) fun y=>cond (Nat.ble ((bx x).length+(bx y).length) 100000) (K (.p (.str (dg x y))) σ) False
   | .tup xs=>bQ (jm b) fun ys=>cond (Nat.ble (xs.length+ys.length) 100000) (K (.p (.tup (xs++ys))) σ) False
   | _=>n5 m a b σ K
  | _=>n5 m a b σ K
 | .Sub=>mU a b fun x y=>K (.p (.int (x - y))) σ
 | .Mult=>match a with
  | .p d=>match d with
   | .int x=>bQ (kB b) fun y=>cond (dD x&&dD y) (K (.p (.int (x*y))) σ) False
   | .lst xs=>bQ (kB b) fun y=>cond (y==2&&Nat.ble xs.length 1000) (lO m ((xs++xs).map .p) σ K) False
   | _=>False
  | _=>False
 | .FloorDiv=>mU a b fun x y=>cond (decide (0<y)&&dD y) (K (.p (.int (x / y))) σ) False
 | .Mod=>mU a b fun x y=>cond (decide (0<y)) (K (.p (.int (x % y))) σ) False
 | .Pow=>mU a b fun x y=>cond (x==10&&y==18) (K (.p (.int 1000000000000000000)) σ) False
 | _=>False
noncomputable def eC (k:Sl)(i:PV)(xs:List PV):Option (List PV):=bif Nat.ble xs.length 100000 then (match k with
 | .upto=>((kB i).bind jS).map fun n=>xs.take n
 | .from_=>((kB i).bind jS).map fun n=>xs.drop n
 | .rev=>some xs.reverse
 | .revTo=>((kB i).bind jS).bind fun n=>bif n==0 then some (xs.drop 1).reverse else none) else none
def n6 (m:Bool)(k:Sl)(a i:PV)(σ:ak)(K:PV→ak→Prop):Prop:=bQ (bw σ a) fun xs=>bQ (eC k i xs) fun ys=>lO m ys σ K
noncomputable def Sl.tp:Sl→Bool
 | .revTo=>false
 | _=>true
def oN (m:Bool)(k:Sl)(a i:PV)(σ:ak)(K:PV→ak→Prop):Prop:=match a with
 | .p d=>match d with
  | .tup xs=>cond k.tp (bQ (eC k i (xs.map .p)) fun ys=>K (dX ys) σ) False
  | _=>n6 m k a i σ K
 | .mix _=>False
 | _=>n6 m k a i σ K
noncomputable def kE:List PV→Option (List Int)
 | []=>some []
 | x::r=>(kB x).bind fun i=>(kE r).map (i::·)
noncomputable def jT:Int→List Int→Int
 | m,[]=>m
 | m,x::r=>jT (bif decide (m<x) then x else m) r
noncomputable def nz:Int→List Int→Int
 | m,[]=>m
 | m,x::r=>nz (m+x) r
noncomputable def fY (i:Int):Nat:=pc (Str.ofString (toString i))
noncomputable def nR (xs:List D):Option (Nat×D):=match xs with
 | []=>none
 | a::r=>match r with
  | []=>none
  | v::r=>match r with
   | []=>(dS a).map fun k=>(k,v)
   | _::_=>none
noncomputable def kG:List PV→Option (List Nat×List PV)
 | []=>some ([],[])
 | x::r=>(jm x).bind fun xs=>(nR xs).bind fun p=>(kG r).map fun q=>(p.1::q.1,.p p.2::q.2)
noncomputable def fk:List Nat→Bool
 | []=>true
 | x::r=>!r.contains x&&fk r
noncomputable def mj (a:PV)(σ:ak):Option Nat:=match bw σ a with
 | some xs=>some xs.length
 | none=>(bC σ a).map (·.1.length)
abbrev d9 (as:List PV)(k:PV→Prop):Prop:=match as with
 | []=>False
 | a::r=>match r with
  | []=>k a
  | _::_=>False
abbrev nA (as:List PV)(k:PV→PV→Prop):Prop:=match as with
 | []=>False
 | a::r=>d9 r (k a)
abbrev oO (as:List PV)(k:Prop):Prop:=match as with
 | []=>k
 | _::_=>False
def ml (a:PV)(σ:ak)(k:List PV→Prop):Prop:=bQ (bw σ a) fun xs=>cond (Nat.ble xs.length 100000) (k xs) False
def mn (a:PV)(σ:ak)(k:List Int→Prop):Prop:=cond (lP a) (bQ (bw σ a) fun xs=>bQ (kE xs) k) False
def pG (a:PV)(σ:ak)(K:PV→ak→Prop):Prop:=match a with
 | .p d=>match d with
  | .tup xs=>K (.p (.tup xs)) σ
  | _=>ml a σ fun xs=>K (dX xs) σ
 | .mix _=>False
 | _=>ml a σ fun xs=>K (dX xs) σ
def pH (a:PV)(σ:ak)(K:PV→ak→Prop):Prop:=bQ (jn a) fun xs=>bQ (kG (xs.map .p)) fun q=>cond (fk q.1&&Nat.ble q.1.length 1000) (K (.dct q.1 q.2) σ) False
noncomputable def pI (ks:List Nat):Option D:=match ks with
 | []=>some (.lst [])
 | k::r=>match r with
  | []=>some (.lst [.str k])
  | _=>none
noncomputable def pJ (xs:List Int):Option Int:=match xs with
 | []=>none
 | x::r=>some (jT x r)
def fZ (b:Blt)(m:Bool)(as:List PV)(σ:ak)(K:PV→ak→Prop):Prop:=match b with
 | .len=>d9 as fun a=>bQ (mj a σ) fun n=>cond (Nat.ble n 100000) (K (.p (.int n)) σ) False
 | .list=>d9 as fun a=>ml a σ fun xs=>lO m xs σ K
 | .tuple=>d9 as fun a=>pG a σ K
 | .dictOf=>d9 as fun a=>pH a σ K
 | .dictCopy=>d9 as fun a=>bQ (bC σ a) fun d=>cond (Nat.ble d.1.length 1000) (K (.ref σ.length) (σ++[.dict d.1 d.2])) False
 | .max=>d9 as fun a=>mn a σ fun xs=>bQ (pJ xs) fun n=>K (.p (.int n)) σ
 | .min=>nA as fun a b=>mU a b fun x y=>K (.p (.int (bif decide (y<x) then y else x))) σ
 | .sum=>d9 as fun a=>mn a σ fun xs=>K (.p (.int (nz 0 xs))) σ
 | .str=>d9 as fun a=>bQ (kB a) fun i=>cond (decide (i.natAbs<1000000000)) (K (.p (.str (fY i))) σ) False
 | .int=>d9 as fun a=>bQ (kB a) fun i=>K (.p (.int i)) σ
 | .keys=>d9 as fun a=>bQ (bC σ a) fun d=>bQ (pI d.1) fun x=>K (.p x) σ
noncomputable def jo:List D→Option (List Nat)
 | []=>some []
 | x::r=>(dS x).bind fun n=>(jo r).map (n::·)
noncomputable def dq (sep:Nat):List Nat→List Nat
 | []=>[]
 | [a]=>bx a
 | a::r=>bx a++bx sep++dq sep r
noncomputable def dZ (sep:Nat):List Nat→Nat
 | []=>0
 | a::r=>(bx a).length+(bx sep).length+dZ sep r
noncomputable def nS (x y:Str):Bool:=(Builtin.Str.occurrences x y 0 x.length (x.length+1)).isEmpty&&!(y.length==0)
noncomputable def oP (a:PV)(σ:ak):Bool:=match a with
 | .ref i=>match σ[i]? with
  | some (.list _)=>true
  | _=>false
 | _=>false
noncomputable def lQ (b:Bme)(a:PV)(σ:ak):Bool:=match b with
 | .get=>(bC σ a).isSome
 | .split=>(mS a).isSome
 | .join=>(mS a).isSome
 | _=>oP a σ
def nB (a:PV)(σ:ak)(k:Nat→List PV→Prop):Prop:=match a with
 | .ref i=>pd σ[i]? fun xs=>k i xs
 | _=>False
def oQ (b:Bme)(a:PV)(as:List PV)(σ:ak)(K:PV→ak→Prop):Prop:=match b with
 | .pop=>oO as (nB a σ fun i xs=>bQ xs.getLast? fun v=>cond (Nat.ble xs.length 100000) (K v (σ.set i (.list xs.dropLast))) False)
 | .append=>d9 as fun v=>nB a σ fun i xs=>cond (Nat.ble xs.length 100000) (K (.p .none) (σ.set i (.list (xs++[v])))) False
 | .extend=>d9 as fun v=>nB a σ fun i xs=>bQ (nQ v) fun y=>bQ (dQ y) fun ys=>cond (Nat.ble (xs.length+ys.length) 100000) (K (.p .none) (σ.set i (.list (xs++ys.map .p)))) False
 | .get=>nA as fun k dflt=>bQ (mS k) fun k=>bQ (bC σ a) fun d=>match cJ k d.1 d.2 with
  | some v=>K v σ
  | none=>K dflt σ
 | .split=>d9 as fun sep=>bQ (mS a) fun s=>bQ (mS sep) fun sep=>cond (nS (aJ s) (aJ sep)) (K (.p (.lst [.str s])) σ) False
 | .join=>d9 as fun v=>bQ (mS a) fun sep=>bQ (jn v) fun xs=>bQ (jo xs) fun ns=>cond (Nat.ble (dZ sep ns) 100000) (K (.p (.str (cU (dq sep ns)))) σ) False
def dE (vi:PV)(all:List PV)(σ:ak)(R:Prop):Prop:=match vi with
 | .ref i=>bw σ (.ref i)=some all∧R
 | _=>R
def hZ (vi:PV)(all:List PV)(F:PV→aN→ak→(Res→aN→ak→Prop)→Prop):List PV→aN→ak→(Res→aN→ak→Prop)→Prop
 | [],ρ,σ,K=>dE vi all σ (K .next ρ σ)
 | x::xs,ρ,σ,K=>dE vi all σ (F x ρ σ fun r ρ σ=>match r with
  | .next=>hZ vi all F xs ρ σ K
  | .ret v=>K (.ret v) ρ σ)
def bj (t:aN→ak→(Bool→ak→Prop)→Prop)(F:aN→ak→(Res→aN→ak→Prop)→Prop):Nat→aN→ak→(Res→aN→ak→Prop)→Prop
 | 0,_,_,_=>False
 | n+1,ρ,σ,K=>t ρ σ fun b σ=>match b with
  | true=>F ρ σ fun r ρ σ=>match r with
   | .next=>bj t F n ρ σ K
   | .ret v=>K (.ret v) ρ σ
  | false=>K .next ρ σ
def dh (vi:PV)(all:List PV)(F:PV→ak→(List D→ak→Prop)→Prop):List PV→ak→(List D→ak→Prop)→Prop
 | [],σ,K=>dE vi all σ (K [] σ)
 | x::xs,σ,K=>dE vi all σ (F x σ fun ds σ=>dh vi all F xs σ fun es σ=>K (ds++es) σ)
def h9 (F:PV→ak→(PV→ak→Prop)→Prop):List D→ak→(List Nat→ak→Prop)→Prop
 | [],σ,K=>K [] σ
 | x::xs,σ,K=>F (.p x) σ fun v σ=>match v with
  | .p (.str k)=>h9 F xs σ fun ks σ=>K (k::ks) σ
  | _=>False
noncomputable def dF:Nat:=100000
noncomputable def bz:Nat→Nat→List PV
 | 0,_=>[]
 | n+1,i=>.p (.int i)::bz n (i+1)
noncomputable def jU:List PV→List PV→List PV
 | a::r,b::t=>dX [a,b]::jU r t
 | _,_=>[]
noncomputable def jp:List PV→Option (List Nat×List PV)
 | []=>some ([],[])
 | k::r=>match r with
  | []=>none
  | v::r=>(mS k).bind fun k=>(jp r).map fun q=>(k::q.1,v::q.2)
def pK (m:Bool)(ps:List PV)(σ:ak)(K:PV→ak→Prop):Prop:=bQ (jp ps) fun q=>cond (fk q.1) (match m with
  | true=>K (.ref σ.length) (σ++[.dict q.1 q.2])
  | false=>K (.dct q.1 q.2) σ) False
def oS (l:Bool)(va:PV)(σ:ak)(K:Bool→Prop):Prop:=match l with
 | false=>bQ (jm va) fun xs=>K xs.isEmpty
 | true=>match va with
  | .p d=>bQ (jn (.p d)) fun xs=>K xs.isEmpty
  | .ref i=>pd σ[i]? fun xs=>K xs.isEmpty
  | _=>False
noncomputable def gW:PV→Bool
 | .p .none=>true
 | _=>false
def bK (K:Bool→ak→Prop):PV→ak→Prop
 | .p (.bool b),σ=>K b σ
 | _,_=>False
def dK (K:D→ak→Prop):PV→ak→Prop
 | .p d,σ=>K d σ
 | _,_=>False
structure Tab where
 meth:Nat→Nat→Option Nat
 attr:Nat→Nat→Bool
mutual
def bR (B:Tab)(Φ:b9):T→aN→ak→(PV→ak→Prop)→Prop
 | .con d,_,σ,K=>K (.p d) σ
 | .var x,ρ,σ,K=>bQ (ρ.lookup x) fun v=>K v σ
 | .glo _ d,_,σ,K=>K (.p d) σ
 | .tup es,ρ,σ,K=>evsP B Φ es ρ σ fun vs σ=>K (dX vs) σ
 | .lis m es,ρ,σ,K=>evsP B Φ es ρ σ fun vs σ=>lO m vs σ K
 | .dic m kvs,ρ,σ,K=>evsP B Φ kvs ρ σ fun ps σ=>pK m ps σ K
 | .cmp op r a b,ρ,σ,K=>bR B Φ a ρ σ fun va σ=>bR B Φ b ρ σ fun vb σ=>n4 op r va vb σ fun c=>K (.p (.bool c)) σ
 | .emp neg l a,ρ,σ,K=>bR B Φ a ρ σ fun va σ=>oS l va σ fun b=>K (.p (.bool (neg != b))) σ
 | .isn neg a,ρ,σ,K=>bR B Φ a ρ σ fun va σ=>K (.p (.bool (gW va != neg))) σ
 | .bl o es,ρ,σ,K=>blP B Φ o es ρ σ fun b σ=>K (.p (.bool b)) σ
 | .not a,ρ,σ,K=>bR B Φ a ρ σ (bK fun b σ=>K (.p (.bool (!b))) σ)
 | .bin op m a b,ρ,σ,K=>bR B Φ a ρ σ fun va σ=>bR B Φ b ρ σ fun vb σ=>ny op m va vb σ K
 | .ife t a b,ρ,σ,K=>bR B Φ t ρ σ (bK fun c σ=>match c with
  | true=>bR B Φ a ρ σ K
  | false=>bR B Φ b ρ σ K)
 | .att a x,ρ,σ,K=>bR B Φ a ρ σ fun va σ=>bQ (hY B.attr σ x va) fun v=>K v σ
 | .sub a i,ρ,σ,K=>bR B Φ a ρ σ fun va σ=>bR B Φ i ρ σ fun vi σ=>bQ (fF σ va vi) fun v=>K v σ
 | .slc m k a i,ρ,σ,K=>bR B Φ a ρ σ fun va σ=>bR B Φ i ρ σ fun vi σ=>oN m k va vi σ K
 | .call f as,ρ,σ,K=>evsP B Φ as ρ σ fun vs σ=>Φ f vs σ K
 | .met a x as,ρ,σ,K=>bR B Φ a ρ σ fun va σ=>bQ (jb σ va) fun c=>bQ (B.meth c.1 x) fun f=>cond (c.2.any (·==x)) False (evsP B Φ as ρ σ fun vs σ=>Φ f (va::vs) σ K)
 | .blt b m as,ρ,σ,K=>evsP B Φ as ρ σ fun vs σ=>fZ b m vs σ K
 | .bme b a as,ρ,σ,K=>bR B Φ a ρ σ fun va σ=>cond (lQ b va σ) (evsP B Φ as ρ σ fun vs σ=>oQ b va vs σ K) False
 | .srt a f,ρ,σ,K=>bR B Φ a ρ σ fun va σ=>bQ ((ja σ va).bind dL) fun xs=>cond (Nat.ble 2 xs.length&&Nat.ble xs.length 63) (h9 (fun v σ K=>Φ f [v] σ K) xs σ fun ks σ=>∀ zs:List D,zs.Perm xs→K (.p (.lst zs)) σ) False
 | .rng a,ρ,σ,K=>bR B Φ a ρ σ fun va σ=>bQ ((kB va).bind jS) fun n=>cond (Nat.ble n 100000) (K (.mix (bz n 0)) σ) False
 | .zip a b,ρ,σ,K=>bR B Φ a ρ σ fun va σ=>bR B Φ b ρ σ fun vb σ=>bQ (bw [] va) fun xs=>bQ (mh vb) fun ys=>K (.mix (jU xs ys)) σ
 | .cmp1 m elt tg it cond,ρ,σ,K=>bR B Φ it ρ σ fun vi σ=>bQ (bw σ vi) fun xs=>_root_.cond (Nat.ble xs.length 100000) (dh vi xs (fun x σ K=>bQ (bo tg x ρ) fun ρ'=>bR B Φ cond ρ' σ (bK fun c σ=>match c with
    | true=>bR B Φ elt ρ' σ (dK fun d σ=>K [d] σ)
    | false=>K [] σ)) xs σ fun ds σ=>oM m ds σ K) False
 | .cmp2 elt t1 i1 t2 i2,ρ,σ,K=>bR B Φ i1 ρ σ fun v1 σ=>bQ (bw σ v1) fun xs=>cond (Nat.ble xs.length 300) (dh v1 xs (fun x σ K=>bQ (bo t1 x ρ) fun ρ'=>cond (n0 t2 ρ') (bR B Φ i2 ρ' σ fun v2 σ=>bQ (bw σ v2) fun ys=>cond (Nat.ble ys.length 300) (dh v2 ys (fun y σ K=>bQ (bo t2 y ρ') fun ρ''=>bR B Φ elt ρ'' σ (dK fun d σ=>K [d] σ)) ys σ K) False) False) xs σ fun ds σ=>K (.p (.lst ds)) σ) False
 | _,_,_,_=>False
def evsP (B:Tab)(Φ:b9):T→aN→ak→(List PV→ak→Prop)→Prop
 | .nil,_,σ,K=>K [] σ
 | .cons h t,ρ,σ,K=>bR B Φ h ρ σ fun v σ=>evsP B Φ t ρ σ fun vs σ=>K (v::vs) σ
 | _,_,_,_=>False
def blP (B:Tab)(Φ:b9)(o:Bool):T→aN→ak→(Bool→ak→Prop)→Prop
 | .cons h .nil,ρ,σ,K=>bR B Φ h ρ σ (bK K)
 | .cons h t,ρ,σ,K=>bR B Φ h ρ σ (bK fun b σ=>match b==o with
   | true=>K o σ
   | false=>blP B Φ o t ρ σ K)
 | _,_,_,_=>False
end
def bu (B:Tab)(Φ:b9):T→aN→ak→(Res→aN→ak→Prop)→Prop
 | .nil,ρ,σ,K=>K .next ρ σ
 | .cons s t,ρ,σ,K=>bu B Φ s ρ σ fun r ρ σ=>match r with
  | .next=>bu B Φ t ρ σ K
  | .ret v=>K (.ret v) ρ σ
 | .asg x e,ρ,σ,K=>bR B Φ e ρ σ fun v σ=>K .next (de x v ρ) σ
 | .unp xs e,ρ,σ,K=>bR B Φ e ρ σ fun v σ=>bQ (bo (.many xs) v ρ) fun ρ'=>K .next ρ' σ
 | .ata o x e,ρ,σ,K=>bR B Φ e ρ σ fun v σ=>bR B Φ o ρ σ fun vo σ=>bQ (mi B.attr σ x v vo) fun σ'=>K .next ρ σ'
 | .asu o i e,ρ,σ,K=>bR B Φ e ρ σ fun v σ=>bR B Φ o ρ σ fun vo σ=>bR B Φ i ρ σ fun vi σ=>bQ (jc σ vo vi v) fun σ'=>K .next ρ σ'
 | .exp e,ρ,σ,K=>bR B Φ e ρ σ fun J σ=>K .next ρ σ
 | .iff c a b,ρ,σ,K=>bR B Φ c ρ σ (bK fun v σ=>match v with
  | true=>bu B Φ a ρ σ K
  | false=>bu B Φ b ρ σ K)
 | .whl c b,ρ,σ,K=>bj (fun ρ σ K=>bR B Φ c ρ σ (bK K)) (bu B Φ b) dF ρ σ K
 | .fro tg it b,ρ,σ,K=>bR B Φ it ρ σ fun vi σ=>bQ (bw σ vi) fun xs=>hZ vi xs (fun x ρ σ K=>bQ (bo tg x ρ) fun ρ'=>bu B Φ b ρ' σ K) xs ρ σ K
 | .ret e,ρ,σ,K=>bR B Φ e ρ σ fun v σ=>K (.ret v) ρ σ
 | _,_,_,_=>False
structure Fn where
 params:List Nat
 dfl:List D
 body:T
 pur:Bool
structure Cl where
 init:Nat
 pur:Bool
structure Prg where
 tab:Tab
 fn:Nat→Option Fn
 cl:Nat→Option Cl
noncomputable def kH:Res→PV
 | .next=>.p .none
 | .ret v=>v
noncomputable def iQ {α β:Type}(f:α→Option β):List α→Option (List β)
 | []=>some []
 | x::xs=>match f x,iQ f xs with
  | some y,some ys=>some (y::ys)
  | _,_=>none
noncomputable def nC:Nat→ak→PV→Option PV
 | _,_,.p d=>some (.p d)
 | 0,_,_=>none
 | n+1,σ,.ref i=>match σ[i]? with
  | some (.list xs)=>(eB xs).map fun ds=>.p (.lst ds)
  | some (.inst c ns vs)=>(iQ (nC n σ) vs).map fun vs=>.inst c ns vs
  | some (.dict ks vs)=>(iQ (nC n σ) vs).map fun vs=>.dct ks vs
  | none=>none
 | _+1,_,v=>bif v.noRef then some v else none
noncomputable def mo (fn:Fn)(args:List PV):Option aN:=
 bif Nat.ble args.length fn.params.length&&Nat.ble (fn.params.length - args.length) fn.dfl.length then
  some (fn.params.zip (args++(fn.dfl.drop (fn.dfl.length - (fn.params.length - args.length))).map .p))
 else none
def eD (B:Tab)(Φ:b9)(fn:Fn)(args:List PV)(σ:ak)(K:PV→ak→Prop):Prop:=bQ (mo fn args) fun ρ=>bu B Φ fn.body ρ σ fun r J σ=>K (kH r) σ
def jq (B:Tab)(Φ:b9)(fn:Fn)(args:List PV)(σ:ak)(K:PV→ak→Prop):Prop:=
 match fn.pur with
 | true=>cond (PV.noRefs args) (eD B Φ fn args [] fun v σ'=>bQ (nC 4 σ' v) fun w=>K w σ) False
 | false=>eD B Φ fn args σ K
def mq (B:Tab)(Φ:b9) (c:Nat)(pur:Bool)(fn:Fn)(args:List PV)(σ:ak)(K:PV→ak→Prop):Prop:=
 match pur with
 | true=>cond (PV.noRefs args) (eD B Φ fn (.ref 0::args) [.inst c [] []] fun v σ'=>match v with
  | .p .none=>bQ (nC 4 σ' (.ref 0)) fun w=>K w σ
  | _=>False) False
 | false=>eD B Φ fn (.ref σ.length::args) (σ++[.inst c [] []]) fun v σ'=>match v with
  | .p .none=>K (.ref σ.length) σ'
  | _=>False
noncomputable def ae (P:Prg):Nat→b9
 | 0=>fun J J J J=>False
 | d+1=>fun f args σ K=>bif Nat.blt f 1000 then bQ (P.fn f) fun fn=>jq P.tab (ae P d) fn args σ K
  else bQ (P.cl (f - 1000)) fun c=>bQ (P.fn c.init) fun fn=>mq P.tab (ae P d) (f - 1000) c.pur fn args σ K
noncomputable abbrev KP:=PV→ak→Prop
noncomputable abbrev KR:=Res→aN→ak→Prop
noncomputable abbrev VS:=Value→Shared→Prop
noncomputable abbrev AP:=Addr→Prop
end Mine
end
section
set_option genSizeOf false
set_option genCtorIdx false
set_option genInjectivity false
namespace Mine
open PySem PySem.W PySem.Calls PyProof.Rows PySem.Spec
def Fz (ov:List Addr)(as:List (Addr×Addr))(b:Addr):Prop:=b∉ov∧∀ l∈as,b≠l.1∧b≠l.2
def Cv (as:List (Addr×Addr))(b:Addr):Prop:=∀ l∈as,b≠l.1∧b≠l.2
def dr (h:Heap)(a:Addr)(vs:Array Value):Prop:=∃ n,h.get? a=some {cls:=.type "tuple",data:=.seq vs n}
theorem dr.isTup {h:Heap}{a:Addr}{vs:Array Value}(x:dr h a vs):IsTup h a vs:=let ⟨n,e⟩:=x;⟨_,e,rfl,n,rfl⟩
mutual
def cc (h:Heap)(F:AP):D→Value→Prop
 | .none,v=>v=.none
 | .bool b,v=>v=.bool b
 | .int i,v=>∃ t,v=.int i t
 | .str n,v=>bc n=true∧∃ t,v=.str (aJ n) t
 | .tup xs,v=>∃ a vs,v=.ref a∧F a∧dr h a (List.toArray vs)∧DReps h F xs vs
 | .lst xs,v=>∃ a vs,v=.ref a∧F a∧h.PlainList a (List.toArray vs)∧DReps h F xs vs
def DReps (h:Heap)(F:AP):List D→List Value→Prop
 | [],vs=>vs=[]
 | x::xs,vs=>∃ v r,vs=v::r∧cc h F x v∧DReps h F xs r
end
def ia (es:List DictEntry):Prop:=∀ e∈es,∃ x t,e.key=.str x t
structure Cx where
 prog:Program
 w:World
 K:Frag
 P:Prg
 fa:Nat→Addr
 ca:Nat→Addr
section
variable (cx:Cx)
def ce (h:Heap)(a:Addr) (n:Nat)(f:Str→Option Value):Prop:=
 ∃ kvs:List (Str×Value),h.DictOf (PySem.strKind cx.prog cx.w) a kvs∧kvs.length=n∧(∀ x,valueAt kvs x=f x)∧(a==sysModules)=false
def jd (h:Heap)(dx:Addr) (n:Nat)(f:Str→Option Value):Prop:=
 ∃ es k,h.get? dx=some (dictOf es k)∧es.length=n∧ia es∧∀ x,getL x es=some (f x)
mutual
def az (h:Heap)(F:AP)(as:List (Addr×Addr)):PV→Value→Prop
 | .p d,v=>cc h F d v
 | .mix xs,v=>∃ a vs,v=.ref a∧F a∧dr h a (List.toArray vs)∧VReps h F as xs vs
 | .inst c ns vs,v=>∃ a dx f,v=.ref a∧F a∧F dx∧h.get? a=some (instObj (cx.ca c) dx)∧jd h dx ns.length f∧FReps h F as ns vs f
 | .dct ks vs,v=>∃ a f,v=.ref a∧F a∧ce cx h a ks.length f∧FReps h F as ks vs f
 | .ref i,v=>∃ l,as[i]?=some l∧v=.ref l.1
def VReps (h:Heap)(F:AP)(as:List (Addr×Addr)):List PV→List Value→Prop
 | [],vs=>vs=[]
 | x::xs,vs=>∃ v r,vs=v::r∧az h F as x v∧VReps h F as xs r
def FReps (h:Heap)(F:AP)(as:List (Addr×Addr)):List Nat→List PV→(Str→Option Value)→Prop
 | [],vs,f=>vs=[]∧∀ x,f x=none
 | k::ks,vs,f=>match vs with
  | []=>False
  | v::vs=>bc k=true∧(∃ u,f (aJ k)=some u∧az h F as v u)∧FReps h F as ks vs (fun x=>if x=aJ k then none else f x)
end
end
def Mv (h h':Heap)(F F':AP):Prop:=∀ b o,F b→h.get? b=some o→F' b∧h'.get? b=some o
theorem Mv.trans {h h' h'':Heap}{F F' F'':AP}(x:Mv h h' F F')(y:Mv h' h'' F' F''):Mv h h'' F F'':=
 fun b o a e=>let ⟨a',e'⟩:=x b o a e;y b o a' e'
theorem tR {h h':Heap}{F F':AP}(m:Mv h h' F F'){a:Addr}{vs:Array Value}(f:F a)(x:dr h a vs):F' a∧dr h' a vs:=
 let ⟨n,ho⟩:=x;⟨(m a _ f ho).1,n,(m a _ f ho).2⟩
theorem tV {h h':Heap}{F F':AP}(m:Mv h h' F F'){a:Addr}{vs:Array Value}(f:F a)(x:h.PlainList a vs):F' a∧h'.PlainList a vs:=
 let ⟨n,ho⟩:=x;⟨(m a _ f ho).1,n,(m a _ f ho).2⟩
theorem DReps.imp {h h':Heap}{F F':AP}{ds:List D}(H:∀ d∈ds,∀ {v},cc h F d v→cc h' F' d v):∀ {vs:List Value},DReps h F ds vs→DReps h' F' ds vs:=by
 induction ds with
 | nil=>exact fun x=>x
 | cons d ds ih=>exact fun x=>Exists.imp (fun v=>Exists.imp fun r=>And.imp id (And.imp (H d mem_cons_self) (ih fun y hy=>H y (mem_cons_of_mem _ hy)))) x
theorem cc.mv {h h':Heap}{F F':AP}(m:Mv h h' F F'){d:D}:∀ {v:Value},cc h F d v→cc h' F' d v:=
 D.rec (motive_1:=fun d=>∀ {v},cc h F d v→cc h' F' d v) (motive_2:=fun ds=>∀ d∈ds,∀ {v},cc h F d v→cc h' F' d v)
  (fun x=>x) (fun J {_} x=>x) (fun J {_} x=>x) (fun J {_} x=>x)
  (fun ds ih {_} x=>Exists.imp (fun a=>Exists.imp fun vs=>And.imp id fun q=>have e:=tR m q.1 q.2.1;⟨e.1,e.2,DReps.imp ih q.2.2⟩) x)
  (fun ds ih {_} x=>Exists.imp (fun a=>Exists.imp fun vs=>And.imp id fun q=>have e:=tV m q.1 q.2.1;⟨e.1,e.2,DReps.imp ih q.2.2⟩) x)
  (fun J h=>nomatch h) (fun d ds ih ihs y hy=>(mem_cons.mp hy).elim (fun e=>e▸ih) (fun h=>ihs y h)) d
theorem DReps.mv {h h':Heap}{F F':AP}(m:Mv h h' F F'){ds:List D}{vs:List Value}:DReps h F ds vs→DReps h' F' ds vs:=DReps.imp fun J J=>cc.mv m
def cB (as as':List (Addr×Addr)):Prop:=∀ (i:Nat)(l:Addr×Addr),as[i]?=some l→as'[i]?=some l
theorem cB.refl (as:List (Addr×Addr)):cB as as:=fun J J e=>e
theorem cB.app (as bs:List (Addr×Addr)):cB as (as++bs):=fun i l e=>by
 obtain⟨hi,_⟩:=List.getElem?_eq_some_iff.mp e
 rw[List.getElem?_append_left hi];exact e
section
variable {cx:Cx}
theorem ce.map {h:Heap}{a:Addr}{n:Nat}{f:Str→Option Value}(x:ce cx h a n f):h.MapOf (PySem.strKind cx.prog cx.w) a f:=by
 obtain⟨kvs,d,_,e,_⟩:=x
 have:f=valueAt kvs:=funext fun x=>(e x).symm
 rw[this];exact d.mapOf
theorem ce.sys {h:Heap}{a:Addr}{n:Nat}{f:Str→Option Value}(x:ce cx h a n f):(a==sysModules)=false:=x.elim fun J q=>q.2.2.2
theorem ce.obj {h:Heap}{a:Addr}{n:Nat}{f:Str→Option Value}(x:ce cx h a n f):∃ o,h.get? a=some o:=x.elim fun J q=>q.1.imp fun o r=>r.elim fun J r=>r.elim fun J r=>r.1
theorem ce.at {h h':Heap}{a:Addr}{n:Nat}{f:Str→Option Value}(x:ce cx h a n f)(k:∀ o,h.get? a=some o→h'.get? a=some o):ce cx h' a n f:=
 x.imp fun kvs=>And.imp (Exists.imp fun o=>Exists.imp fun es=>Exists.imp fun ep=>And.imp (k o) id) id
theorem tW {h h':Heap}{F F':AP}(m:Mv h h' F F'){a:Addr}{n:Nat}{f:Str→Option Value}(fa:F a)(x:ce cx h a n f):F' a∧ce cx h' a n f:=
 let ⟨o,ho⟩:=x.obj;⟨(m a o fa ho).1,x.at fun o ho=>(m a o fa ho).2⟩
theorem tX {h h':Heap}{F F':AP}(m:Mv h h' F F'){a:Addr}{n:Nat}{f:Str→Option Value}(fa:F a)(x:jd h a n f):F' a∧jd h' a n f:=
 let ⟨es,k,ho,r⟩:=x;⟨(m a _ fa ho).1,es,k,(m a _ fa ho).2,r⟩
section
variable {h h':Heap}{F F':AP}{as as':List (Addr×Addr)}
theorem VReps.imp {vs:List PV}(H:∀ v∈vs,∀ {u},az cx h F as v u→az cx h' F' as' v u):∀ {us:List Value},VReps cx h F as vs us→VReps cx h' F' as' vs us:=by
 induction vs with
 | nil=>exact fun x=>x
 | cons v vs ih=>exact fun x=>Exists.imp (fun w=>Exists.imp fun r=>And.imp id (And.imp (H v mem_cons_self) (ih fun y hy=>H y (mem_cons_of_mem _ hy)))) x
theorem FReps.imp {vs:List PV}(H:∀ v∈vs,∀ {u},az cx h F as v u→az cx h' F' as' v u):∀ {ks:List Nat}{f:Str→Option Value},FReps cx h F as ks vs f→FReps cx h' F' as' ks vs f:=by
 induction vs with
 | nil=>
  intro ks f
  cases ks<;>exact fun x=>x
 | cons v vs ih=>
  intro ks f
  cases ks with
  | nil=>exact fun x=>x
  | cons k ks=>exact And.imp id (And.imp (Exists.imp fun u=>And.imp id (H v mem_cons_self)) (ih fun y hy=>H y (mem_cons_of_mem _ hy)))
theorem az.gen (m:Mv h h' F F')(v:PV):(v.noRef=true∨cB as as')→∀ {u:Value},az cx h F as v u→az cx h' F' as' v u:=
 PV.rec (motive_1:=fun v=>(v.noRef=true∨cB as as')→∀ {u},az cx h F as v u→az cx h' F' as' v u) (motive_2:=fun vs=>(PV.noRefs vs=true∨cB as as')→∀ v∈vs,∀ {u},az cx h F as v u→az cx h' F' as' v u)
  (fun d J {_} x=>cc.mv m x)
  (fun vs ih z {_} x=>Exists.imp (fun a=>Exists.imp fun us=>And.imp id fun q=>have e:=tR m q.1 q.2.1;⟨e.1,e.2,VReps.imp (ih z) q.2.2⟩) x)
  (fun c ns vs ih z {_} x=>Exists.imp (fun a=>Exists.imp fun dx=>Exists.imp fun f=>And.imp id fun q=>have e:=m a _ q.1 q.2.2.1;have k:=tX m q.2.1 q.2.2.2.1;⟨e.1,k.1,e.2,k.2,FReps.imp (ih z) q.2.2.2.2⟩) x)
  (fun ks vs ih z {_} x=>Exists.imp (fun a=>Exists.imp fun f=>And.imp id fun q=>have e:=tW m q.1 q.2.1;⟨e.1,e.2,FReps.imp (ih z) q.2.2⟩) x)
  (fun i z {_} x=>Exists.imp (fun l=>And.imp (z.elim (fun n=>nomatch n) fun p=>p i l) id) x)
  (fun J J h=>nomatch h)
  (fun v vs ih ihs z y hy=>(mem_cons.mp hy).elim (fun e=>e▸ih (z.imp (fun n=>(aT n).1) id)) (fun h=>ihs (z.imp (fun n=>(aT n).2) id) y h)) v
theorem az.mv (m:Mv h h' F F')(p:cB as as'){v:PV}{u:Value}:az cx h F as v u→az cx h' F' as' v u:=az.gen m v (.inr p)
theorem VReps.mv (m:Mv h h' F F')(p:cB as as'){v:List PV}{u:List Value}:VReps cx h F as v u→VReps cx h' F' as' v u:=VReps.imp fun J J=>az.mv m p
theorem FReps.mv (m:Mv h h' F F')(p:cB as as'){ks:List Nat}{v:List PV}{f:Str→Option Value}:FReps cx h F as ks v f→FReps cx h' F' as' ks v f:=FReps.imp fun J J=>az.mv m p
end
def f7 (cx:Cx)(h:Heap)(F:AP)(as:List (Addr×Addr))(l:Addr×Addr):Cell→Prop
 | .list xs=>l.2=l.1∧∃ vs,h.PlainList l.1 (List.toArray vs)∧VReps cx h F as xs vs
 | .inst c ns vs=>l.2≠l.1∧h.get? l.1=some (instObj (cx.ca c) l.2)∧∃ f,jd h l.2 ns.length f∧FReps cx h F as ns vs f
 | .dict ks vs=>l.2=l.1∧∃ f,ce cx h l.1 ks.length f∧FReps cx h F as ks vs f
structure St (cx:Cx)(h₀:Heap)(ov:List Addr)(as:List (Addr×Addr))(σ:ak)(h:Heap):Prop where
 keep:∀ b o,h₀.get? b=some o→h.get? b=some o
 ovOld:∀ b∈ov,h₀.get? b=none
 asOld:∀ l∈as,h₀.get? l.1=none∧h₀.get? l.2=none
 ovIn:∀ b∈ov,∃ o,h.get? b=some o
 ovAs:∀ b∈ov,Cv as b
 apart:as.Pairwise fun x y=>x.1≠y.1∧x.1≠y.2∧x.2≠y.1∧x.2≠y.2
 len:as.length=σ.length
 cells:∀ (i:Nat)(l:Addr×Addr)(c:Cell),as[i]?=some l→σ[i]?=some c→f7 cx h (Fz ov as) as l c
end
structure AOk (d:Nat)(A:Around):Prop where
 hand:A.handled=none
 depth:A.depth+4*d≤960
 units:A.units+40*d≤9000
structure Gd (cx:Cx)(h₀:Heap):Prop where
 X:cx.K.In h₀
 top:∃ p loose mg mb,TopRead p loose mg mb h₀
 lim:h₀.NoLimit
def qN (nm:List (Str×NameKind))(env:Env)(h:Heap)(n:Str)(u:Value):Prop:=
 (nm.lookup n=some .local∧∃ m,h.Ns env.locals m∧m n=some u)∨
 ((nm.lookup n=some .cell∨nm.lookup n=some .free)∧∃ c,env.cells.lookup n=some c∧h.IsCell c (some u))
noncomputable def oU (x:Nat):Bool:=bc x&&!(aJ x==Str.ofString ".0")
theorem eq_79 {x:Nat}(h:oU x=true):bc x=true:=(Bool.and_eq_true_iff.mp h).1
structure EnvR (cx:Cx)(nm:List (Str×NameKind))(env:Env)(ρ:aN)(ov:List Addr)(as:List (Addr×Addr))(h:Heap):Prop where
 names:env.scope.names=nm
 kind:env.scope.kind=.function
 glob:env.globals=mainGlobals
 bi:env.builtins=builtinsNs
 lo:∃ m,h.Ns env.locals m
 loOv:env.locals∈ov
 cOv:∀ n c,(n,c)∈env.cells→c∈ov
 cIs:∀ n c,env.cells.lookup n=some c→∃ v,h.IsCell c v
 apart:env.cells.Pairwise fun x y=>x.2≠y.2
 kinds:∀ n,nm.lookup n=some .cell∨nm.lookup n=some .free→∃ c,env.cells.lookup n=some c
 vals:∀ x v k,oU x=true→ρ.lookup x=some v→nm.lookup (aJ x)=some k→k=.local∨k=.cell∨k=.free→
  ∃ u,qN nm env h (aJ x) u∧az cx h (Fz ov as) as v u
structure Here (cx:Cx) (d:Nat)(nm:List (Str×NameKind))(ρ:aN)(σ:ak)(A:Around)(env:Env)(h₀:Heap)(ov:List Addr)(as:List (Addr×Addr))(s:Shared):Prop where
 a:AOk d A
 gd:Gd cx h₀
 st:St cx h₀ ov as σ s.heap
 env:EnvR cx nm env ρ ov as s.heap
structure Fw (as as':List (Addr×Addr))(s s':Shared):Prop where
 pre:∃ nw,as'=as++nw∧∀ l∈nw,s.heap.get? l.1=none∧s.heap.get? l.2=none
 kept:∀ b o,Cv as b→s.heap.get? b=some o→s'.heap.get? b=some o
 live:∀ b o,s.heap.get? b=some o→∃ o',s'.heap.get? b=some o'
 rest:∃ h tk,s'={s with heap:=h,toks:=tk}
def di (cx:Cx)(h₀:Heap)(ov:List Addr)(as:List (Addr×Addr))(s:Shared)(K:KP)(Q:VS):Prop:=
 ∀ pv σ' v as' s',K pv σ'→Fw as as' s s'→St cx h₀ ov as' σ' s'.heap→az cx s'.heap (Fz ov as') as' pv v→Q v s'
def SE (cx:Cx)(Φ:b9) (d:Nat)(nm:List (Str×NameKind))(x:T)(e:Expr):Prop:=
 ∀ ρ σ K A env h₀ ov as s Q E,bR cx.P.tab Φ x ρ σ K→Here cx d nm ρ σ A env h₀ ov as s→di cx h₀ ov as s K Q→
  wpAny (model cx.prog cx.w) A (eval e env) Q E s
def ly (cx:Cx)(Φ:b9) (d:Nat)(nm:List (Str×NameKind))(x:T)(es:List Expr):Prop:=
 ∀ ρ σ (K:List PV→ak→Prop) A env h₀ ov as s (Q:List Value→Shared→Prop) E,evsP cx.P.tab Φ x ρ σ K→Here cx d nm ρ σ A env h₀ ov as s→
  (∀ pvs σ' vs as' s',K pvs σ'→Fw as as' s s'→St cx h₀ ov as' σ' s'.heap→VReps cx s'.heap (Fz ov as') as' pvs vs→vs.length=es.length→Q vs s')→
  ∀ pos,wpAny (model cx.prog cx.w) A (spliced (backTo pos (starEach es env))) Q E s
section
variable {cx:Cx}{Φ:b9}{d:Nat}{nm:List (Str×NameKind)}{ρ:aN}{σ:ak}{A:Around}{env:Env}{h₀:Heap}{ov:List Addr}{as as' as'':List (Addr×Addr)}{s s' s'':Shared}
theorem Fw.refl (as:List (Addr×Addr))(s:Shared):Fw as as s s:=
 ⟨⟨[],by simp,fun J h=>nomatch h⟩,fun J J J e=>e,fun J o e=>⟨o,e⟩,s.heap,s.toks,rfl⟩
theorem sP {as nw:List (Addr×Addr)}{b:Addr}(h:Cv as b)(k:∀ l∈nw,b≠l.1∧b≠l.2):Cv (as++nw) b:=fun l hl=>(mem_append.mp hl).elim (h l) (k l)
theorem rh {h:Heap}{a b:Addr}{o:Obj}(e:h.get? b=some o)(n:h.get? a=none):b≠a:=fun q=>by rw[q,n] at e;cases e
theorem Fw.trans (x:Fw as as' s s')(y:Fw as' as'' s' s''):Fw as as'' s s'':=by
 obtain⟨nw,e1,n1⟩:=x.pre
 obtain⟨nv,e2,n2⟩:=y.pre
 refine⟨⟨nw++nv,by rw[e2,e1,append_assoc],fun l hl=>?_⟩,fun b o c e=>?_,fun b o e=>?_,?_⟩
 ·rcases mem_append.mp hl with hl | hl
  ·exact n1 l hl
  ·have nn:∀ b,s'.heap.get? b=none→s.heap.get? b=none:=fun b q=>by
    cases z:s.heap.get? b with
    | none=>rfl
    | some o=>obtain⟨o',z'⟩:=x.live b o z;rw[q] at z';cases z'
   exact⟨nn _ (n2 l hl).1,nn _ (n2 l hl).2⟩
 ·refine y.kept b o ?_ (x.kept b o c e)
  rw[e1]
  exact sP c fun l hl=>⟨rh e (n1 l hl).1,rh e (n1 l hl).2⟩
 ·obtain⟨o',e'⟩:=x.live b o e
  exact y.live b o' e'
 ·obtain⟨h1,t1,rfl⟩:=x.rest
  obtain⟨h2,t2,rfl⟩:=y.rest
  exact⟨h2,t2,rfl⟩
theorem Fw.prefix (x:Fw as as' s s'):cB as as':=by obtain⟨nw,e,_⟩:=x.pre;rw[e];exact cB.app _ _
theorem Fw.fz (x:Fw as as' s s'){b:Addr}{o:Obj}(f:Fz ov as b)(e:s.heap.get? b=some o):Fz ov as' b:=by
 obtain⟨nw,e1,n1⟩:=x.pre
 refine⟨f.1,?_⟩
 rw[e1]
 exact sP f.2 fun l hl=>⟨rh e (n1 l hl).1,rh e (n1 l hl).2⟩
theorem Fw.mv (x:Fw as as' s s'):Mv s.heap s'.heap (Fz ov as) (Fz ov as'):=fun b o f e=>⟨x.fz f e,x.kept b o f.2 e⟩
theorem Fw.vrep (x:Fw as as' s s'){v:PV}{u:Value}(r:az cx s.heap (Fz ov as) as v u):az cx s'.heap (Fz ov as') as' v u:=az.mv x.mv x.prefix r
theorem Fw.vreps (x:Fw as as' s s'){v:List PV}{u:List Value}(r:VReps cx s.heap (Fz ov as) as v u):VReps cx s'.heap (Fz ov as') as' v u:=VReps.mv x.mv x.prefix r
theorem Fw.ns (x:Fw as as' s s'){a:Addr}(c:Cv as a){m:Str→Option Value}(n:s.heap.Ns a m):s'.heap.Ns a m:=
 n.imp fun o=>Exists.imp fun es=>Exists.imp fun ep=>And.imp (x.kept _ _ c) id
theorem Fw.cell (x:Fw as as' s s'){a:Addr}(c:Cv as a){v:Option Value}(n:s.heap.IsCell a v):s'.heap.IsCell a v:=
 n.imp fun o=>And.imp (x.kept _ _ c) id
theorem rG {α:Type}{x:Str}{d:α}{l:List (Str×α)}:l.lookup x=some d→(x,d)∈l:=by
 induction l with
 | nil=>exact fun h=>nomatch h
 | cons y r ih=>
  intro h
  rw[List.lookup_cons] at h
  cases hb:x==y.1 with
  | true=>rw[hb] at h;cases h;rw[eq_of_beq hb];exact mem_cons_self
  | false=>rw[hb] at h;exact mem_cons_of_mem _ (ih h)
theorem EnvR.fw (r:EnvR cx nm env ρ ov as s.heap)(t:St cx h₀ ov as σ s.heap)(x:Fw as as' s s'):EnvR cx nm env ρ ov as' s'.heap where
 names:=r.names
 kind:=r.kind
 glob:=r.glob
 bi:=r.bi
 lo:=let ⟨m,hm⟩:=r.lo;⟨m,x.ns (t.ovAs _ r.loOv) hm⟩
 loOv:=r.loOv
 cOv:=r.cOv
 cIs:=fun n c hc=>let ⟨v,hv⟩:=r.cIs n c hc;⟨v,x.cell (t.ovAs _ (r.cOv n c (rG hc))) hv⟩
 apart:=r.apart
 kinds:=r.kinds
 vals:=fun y v k sv hl hk hq=>by
  obtain⟨u,hu,hr⟩:=r.vals y v k sv hl hk hq
  refine⟨u,?_,x.vrep hr⟩
  rcases hu with ⟨a,m,hm,e⟩ | ⟨a,c,hc,hv⟩
  ·exact .inl ⟨a,m,x.ns (t.ovAs _ r.loOv) hm,e⟩
  ·exact .inr ⟨a,c,hc,x.cell (t.ovAs _ (r.cOv _ c (rG hc))) hv⟩
theorem Here.next (x:Here cx d nm ρ σ A env h₀ ov as s){σ':ak}(f:Fw as as' s s')(t:St cx h₀ ov as' σ' s'.heap):Here cx d nm ρ σ' A env h₀ ov as' s':=
 ⟨x.a,x.gd,t,x.env.fw x.st f⟩
theorem Fw.toks (as:List (Addr×Addr))(s:Shared) (t:Nat):Fw as as s {s with toks:=t}:=
 ⟨⟨[],by simp,fun J h=>nomatch h⟩,fun J J J e=>e,fun J o e=>⟨o,e⟩,s.heap,t,rfl⟩
theorem di.now {K:KP}{Q:VS}(t:di cx h₀ ov as s K Q)(st:St cx h₀ ov as σ s.heap){pv:PV}{v:Value}(k:K pv σ)(r:az cx s.heap (Fz ov as) as pv v):Q v s:=
 t pv σ v as s k (Fw.refl _ _) st r
theorem di.tok {K:KP}{Q:VS}(t:di cx h₀ ov as s K Q)(st:St cx h₀ ov as σ s.heap){pv:PV}{v:Value}{n:Nat}(k:K pv σ)(r:az cx s.heap (Fz ov as) as pv v):Q v {s with toks:=n}:=
 t pv σ v as _ k (Fw.toks _ _ _) st r
theorem di.fw {K:KP}{Q:VS}(t:di cx h₀ ov as s K Q)(f:Fw as as' s s'):di cx h₀ ov as' s' K Q:=
 fun pv σ' v as₂ s₂ k f' st r=>t pv σ' v as₂ s₂ k (f.trans f') st r
theorem f7.mv {h h':Heap}{F F':AP}{as as':List (Addr×Addr)}(m:Mv h h' F F')(p:cB as as'){l:Addr×Addr}(k1:∀ o,h.get? l.1=some o→h'.get? l.1=some o)(k2:∀ o,h.get? l.2=some o→h'.get? l.2=some o) :
  ∀ {c:Cell},f7 cx h F as l c→f7 cx h' F' as' l c:=fun {c}=>by
 cases c with
 | list xs=>exact And.imp id (Exists.imp fun vs=>And.imp (Exists.imp fun n=>k1 _) (VReps.mv m p))
 | inst c ns vs=>exact And.imp id (And.imp (k1 _) (Exists.imp fun f=>And.imp (Exists.imp fun es=>Exists.imp fun k=>And.imp (k2 _) id) (FReps.mv m p)))
 | dict ks vs=>exact And.imp id (Exists.imp fun f=>And.imp (fun hd=>hd.at k1) (FReps.mv m p))
theorem f7.both {h:Heap}{F:AP}{as:List (Addr×Addr)}{l:Addr×Addr}  {c:Cell}:f7 cx h F as l c→(∃ o,h.get? l.1=some o)∧∃ o,h.get? l.2=some o:=by
 cases c with
 | list xs=>exact fun x=>x.2.elim fun vs q=>q.1.elim fun n e=>⟨⟨_,e⟩,x.1▸⟨_,e⟩⟩
 | inst c ns vs=>exact fun x=>⟨⟨_,x.2.1⟩,x.2.2.elim fun f q=>q.1.elim fun es r=>r.elim fun k r=>⟨_,r.1⟩⟩
 | dict ks vs=>exact fun x=>x.2.elim fun f q=>⟨q.1.obj,x.1▸q.1.obj⟩
theorem St.at (t:St cx h₀ ov as σ s.heap){l:Addr×Addr}(hl:l∈as):(∃ o,s.heap.get? l.1=some o)∧∃ o,s.heap.get? l.2=some o:=by
 obtain⟨i,hi⟩:=List.mem_iff_getElem?.mp hl
 have hi':i<σ.length:=by rw[← t.len];exact(List.getElem?_eq_some_iff.mp hi).1
 exact(t.cells i l σ[i] hi (by simp[hi'])).both
theorem St.fresh (t:St cx h₀ ov as σ s.heap){a:Addr}(e:s.heap.get? a=none):Fz ov as a:=
 ⟨fun hb=>let ⟨o,q⟩:=t.ovIn a hb;rh q e rfl,fun l hl=>let ⟨⟨_,z1⟩,_,z2⟩:=t.at hl;⟨(rh z1 e).symm,(rh z2 e).symm⟩⟩
theorem St.kp (t:St cx h₀ ov as σ s.heap){h':Heap}(kp:∀ b x,s.heap.get? b=some x→h'.get? b=some x) (tk:Nat):St cx h₀ ov as σ h'∧Fw as as s {s with heap:=h',toks:=tk}:=
 ⟨⟨fun b x e=>kp _ _ (t.keep b x e),t.ovOld,t.asOld,fun b hb=>let ⟨x,e⟩:=t.ovIn b hb;⟨x,kp _ _ e⟩,t.ovAs,t.apart,t.len,
   fun i l c h1 h2=>(t.cells i l c h1 h2).mv (fun b x f e=>⟨f,kp b x e⟩) (cB.refl _) (fun J e=>kp _ _ e) (fun J e=>kp _ _ e)⟩,
  ⟨[],by simp,fun J h=>nomatch h⟩,fun b x J e=>kp b x e,fun b x e=>⟨x,kp b x e⟩,h',tk,rfl⟩
theorem St.push (t:St cx h₀ ov as σ s.heap)(o:Obj):St cx h₀ ov as σ (s.heap.push o)∧Fw as as s {s with heap:=s.heap.push o}:=
 t.kp (fun J J e=>Heap.get?_push_of_some _ e) s.toks
theorem St.nold (t:St cx h₀ ov as σ s.heap){a:Addr}(e:s.heap.get? a=none):h₀.get? a=none:=by
 cases q:h₀.get? a with
 | none=>rfl
 | some o=>have:=t.keep a o q;rw[e] at this;cases this
theorem St.add (t:St cx h₀ ov as σ s.heap){h':Heap}{l:Addr×Addr}{c:Cell}(kp:∀ b x,s.heap.get? b=some x→h'.get? b=some x)(n1:s.heap.get? l.1=none)(n2:s.heap.get? l.2=none)
  (hc:f7 cx h' (Fz ov (as++[l])) (as++[l]) l c) (tk:Nat):St cx h₀ ov (as++[l]) (σ++[c]) h'∧Fw as (as++[l]) s {s with heap:=h',toks:=tk}:=by
 have fw:Fw as (as++[l]) s {s with heap:=h',toks:=tk}:=
  ⟨⟨[l],rfl,fun x hx=>by rw[mem_singleton.mp hx];exact⟨n1,n2⟩⟩,fun b x J e=>kp b x e,fun b x e=>⟨x,kp b x e⟩,h',tk,rfl⟩
 refine⟨⟨fun b x e=>kp _ _ (t.keep b x e),t.ovOld,fun x hx=>?_,fun b hb=>let ⟨x,e⟩:=t.ovIn b hb;⟨x,kp _ _ e⟩,fun b hb=>?_,?_,by simp[t.len],fun i l' c' h1 h2=>?_⟩,fw⟩
 ·rcases mem_append.mp hx with hx | hx
  ·exact t.asOld x hx
  ·rw[mem_singleton.mp hx];exact⟨t.nold n1,t.nold n2⟩
 ·refine sP (t.ovAs b hb) fun x hx=>?_
  rw[mem_singleton.mp hx]
  obtain⟨o,e⟩:=t.ovIn b hb
  exact⟨rh e n1,rh e n2⟩
 ·refine List.pairwise_append.mpr ⟨t.apart,List.pairwise_singleton _ _,fun x hx y hy=>?_⟩
  rw[mem_singleton.mp hy]
  obtain⟨⟨_,z1⟩,_,z2⟩:=t.at hx
  exact⟨rh z1 n1,rh z1 n2,rh z2 n1,rh z2 n2⟩
 ·by_cases hi:i<as.length
  ·rw[List.getElem?_append_left hi] at h1
   rw[List.getElem?_append_left (t.len▸hi)] at h2
   have q:=t.cells i l' c' h1 h2
   exact q.mv fw.mv fw.prefix (fun J e=>kp _ _ e) (fun J e=>kp _ _ e)
  ·have h3:i=as.length:=by
    have:=(List.getElem?_eq_some_iff.mp h1).1
    simp at this;lia
   subst h3
   simp at h1
   rw[t.len] at h2
   simp at h2
   subst h1;subst h2
   exact hc
theorem rp (h:Heap):h.get? h.objs.size=none:=Heap.get?_none_of_le (Nat.le_refl _)
end
end Mine
end
section
namespace Mine
open PySem PySem.W PySem.Calls PyProof.Rows PySem.Spec
def mr (K:Frag)(x:D)(v:Value):Prop:=∀ (h:Heap)(F:AP),(∀ a o,K.lookup a=some o→F a∧h.get? a=some o)→cc h F x v
def jV (K:Frag)(xs:List D)(vs:List Value):Prop:=∀ (h:Heap)(F:AP),(∀ a o,K.lookup a=some o→F a∧h.get? a=some o)→DReps h F xs vs
noncomputable def pL (K:Frag)(xs:List D)(ih:∀ vs,Dc (jV K xs vs))(a:Addr)(o:Obj)(ho:K.lookup a=some o):Dc (mr K (.tup xs) (.ref a)):=
 match o,ho with
 | ⟨.type t,none,.seq vs n,⟨[]⟩⟩,ho=>ox t "tuple" fun e=>(ih vs.toList).bi fun r=>.yes fun h F k=>⟨a,vs.toList,rfl,(k _ _ ho).1,⟨n,by subst e;exact(k _ _ ho).2⟩,r h F k⟩
 | _,_=>.no
noncomputable def qu (K:Frag)(x:D):∀ v,Dc (mr K x v):=
 D.rec (motive_1:=fun x=>∀ v,Dc (mr K x v)) (motive_2:=fun xs=>∀ vs,Dc (jV K xs vs))
  (fun v=>by apply mf v (?_);exact .yes fun J J J=>rfl)
  (fun b v=>by apply mc v (fun c=>?_);apply fh b c;exact .yes fun J J J=>rfl)
  (fun i v=>by apply nr v (fun j t=>?_);apply fh i j;exact .yes fun J J J=>⟨t,rfl⟩)
  (fun n v=>by apply nu v (fun s t=>?_);apply fh (aJ n) s;exact gy (bc n) fun h=>.yes fun J J J=>⟨h,t,rfl⟩)
  (fun xs ih v=>by apply nt v (fun a=>?_);exact oK (K.lookup a) fun o ho=>pL K xs ih a o ho)
  (fun J J J=>.no)
  (fun vs=>by apply aK vs (?_);exact .yes fun J J J=>rfl)
  (fun x xs ih ihs vs=>by apply aL vs (fun v r=>?_);exact(ih v).bi fun h1=>(ihs r).bi fun h2=>.yes fun h F k=>⟨v,r,rfl,h1 h F k,h2 h F k⟩) x
noncomputable def pM (K:Frag)(xs:List D):∀ vs,Dc (jV K xs vs∧vs.length=xs.length):=by
 induction xs with
 | nil=>intro vs;apply aK vs (?_);exact .yes ⟨fun J J J=>rfl,rfl⟩
 | cons x xs ih=>intro vs;apply aL vs (fun v r=>?_);exact(qu K x v).bi fun h1=>(ih r).bi fun h2=>.yes ⟨fun h F k=>⟨v,r,rfl,h1 h F k,h2.1 h F k⟩,congrArg (·+1) h2.2⟩
section
variable {cx:Cx}{Φ:b9}{d:Nat}{nm:List (Str×NameKind)}{ρ:aN}{σ:ak}{A:Around}{env:Env}{h₀:Heap}{ov:List Addr}{as as' as'':List (Addr×Addr)}{s s' s'':Shared}
theorem St.old (t:St cx h₀ ov as σ s.heap){a:Addr}{o:Obj}(e:h₀.get? a=some o):Fz ov as a:=
 ⟨fun hb=>rh e (t.ovOld a hb) rfl,fun l hl=>⟨rh e (t.asOld l hl).1,rh e (t.asOld l hl).2⟩⟩
theorem eq_253 (X:cx.K.In h₀)(t:St cx h₀ ov as σ s.heap)(a:Addr)(o:Obj)(e:cx.K.lookup a=some o):Fz ov as a∧s.heap.get? a=some o:=⟨t.old (X _ _ e),t.keep _ _ (X _ _ e)⟩
theorem rf {α:Type}{o:Option α}{k:α→Prop}(h:bQ o k):∃ x,o=some x∧k x:=by
 cases o with
 | none=>exact h.elim
 | some x=>exact⟨x,rfl,h⟩
theorem eq_254 {o:Option Cell}{k:List PV→Prop}(h:pd o k):∃ xs,o=some (.list xs)∧k xs:=by
 cases o with
 | none=>exact h.elim
 | some c=>cases c with
  | list xs=>exact⟨xs,rfl,h⟩
  | _=>exact h.elim
noncomputable def f8 (x:Nat)(n:Str):Bool:=oU x&&(aJ x==n&&(!(n==("__debug__" : Str))&&!(n==("__classdict__" : Str))))
theorem eq_255 {x:Nat}{n:Str}(h:f8 x n=true):oU x=true∧aJ x=n∧(n==("__debug__" : Str))=false∧(n==("__classdict__" : Str))=false:=by
 simpa [f8] using h
noncomputable def n7 (k:Option NameKind):Bool:=k==some .local||(k==some .cell||k==some .free)
theorem eq_464 {k:Option NameKind}(h:n7 k=true):∃ j,k=some j∧(j=.local∨j=.cell∨j=.free):=by
 rcases Bool.or_eq_true_iff.mp h with h | h
 ·exact⟨_,eq_of_beq h,.inl rfl⟩
 rcases Bool.or_eq_true_iff.mp h with h | h
 ·exact⟨_,eq_of_beq h,.inr (.inl rfl)⟩
 ·exact⟨_,eq_of_beq h,.inr (.inr rfl)⟩
noncomputable def ig (k:Option NameKind):Bool:=decide (k=some .globalImplicit)
theorem eq_256 {k:Option NameKind}(h:ig k=true):k=some .globalImplicit:=of_decide_eq_true h
noncomputable def oV (a:Addr)(r:Option (Option Value)):Bool:=decide (r=some (some (.ref a)))
theorem eq_465 {a:Addr}{r:Option (Option Value)}(h:oV a r=true):r=some (some (.ref a)):=of_decide_eq_true h
noncomputable def lA (r:Option (Option Value)):Bool:=decide (r=some none)
theorem eq_466 {r:Option (Option Value)}(h:lA r=true):r=some none:=of_decide_eq_true h
theorem eq_467 {k pos}:SE cx Φ d nm (.con .none) (.Constant .none k pos):=fun J J J J J J J J J J J h H t=>
 wpAny_Constant_none (t.now H.st h rfl)
theorem eq_468 {b k pos}:SE cx Φ d nm (.con (.bool b)) (.Constant (.bool b) k pos):=fun J J J J J J J J J J J h H t=>
 wpAny_Constant_bool (t.now H.st h rfl)
theorem eq_469 {i k pos}:SE cx Φ d nm (.con (.int i)) (.Constant (.int i) k pos):=fun J J J J J J J J J J J h H t=>
 wpAny_Constant_int (t.tok H.st h ⟨_,rfl⟩)
theorem eq_470 {i k p pos}:SE cx Φ d nm (.con (.int (-i))) (.UnaryOp .USub (.Constant (.int i) k p) pos):=fun J J J J J J J J J J J h H t=>
 wpAny_UnaryOp (wpAny_Constant_int (neg_int (t.tok H.st h ⟨_,rfl⟩)))
theorem eq_471 {n k pos}(hv:bc n=true):SE cx Φ d nm (.con (.str n)) (.Constant (.str (aJ n)) k pos):=fun J J J J J J J J J J J h H t=>
 Constant_str (t.tok H.st h ⟨hv,_,rfl⟩)
theorem eq_472 {x:Nat}{n:Str} {pos}(hx:f8 x n=true)(hk:n7 (nm.lookup n)=true):SE cx Φ d nm (.var x) (.Name n pos):=fun ρ σ K A env h₀ ov as s Q E h H t=>by
 obtain⟨sv,rfl,hd,hc⟩:=eq_255 hx
 ·obtain⟨v,hl,h⟩:=rf (o:=ρ.lookup x) (k:=fun v=>K v σ) h
  obtain⟨k,hq,hk'⟩:=eq_464 hk
  obtain⟨u,hu,r⟩:=H.env.vals x v k sv hl hq hk'
  refine wpAny_Name ?_ hd
  have kd:env.kindOf (aJ x)=nm.lookup (aJ x):=by unfold Env.kindOf;rw[H.env.names]
  rcases hu with ⟨a,m,hm,e⟩ | ⟨a | a,c,hc',hv⟩
  ·exact wpAny_loadName_local H.env.kind (kd.trans a) hm e (t.now H.st h r)
  ·exact wpAny_loadName_cell H.env.kind (kd.trans a) hc' hv (t.now H.st h r)
  ·exact wpAny_loadName_free H.env.kind (kd.trans a) hc' hv (t.now H.st h r) hc
theorem eq_139 (H:Here cx d nm ρ σ A env h₀ ov as s){n:Str}{pos:Pos}{v:Value} {Q E}(hd:(n==("__debug__" : Str))=false)(hg:ig (nm.lookup n)=true)(e:nsIn cx.K mainGlobals n=some (some v))(q:Q v s) :
  wpAny (model cx.prog cx.w) A (eval (.Name n pos) env) Q E s:=by
 obtain⟨p,loose,mg,mb,T⟩:=H.gd.top
 have T':=T.keeps H.st.keep
 have kd:env.kindOf n=some .globalImplicit:=by unfold Env.kindOf;rw[H.env.names];exact eq_256 hg
 exact Name_function_global H.env.kind kd (loadGlobal_global (by rw[H.env.glob];exact T'.g) (mg_of (H.gd.X.keeps H.st.keep) T'.g e) q) hd
theorem eq_80 (H:Here cx d nm ρ σ A env h₀ ov as s){n:Str}{pos:Pos}{v:Value} {Q E}(hd:(n==("__debug__" : Str))=false)(hg:ig (nm.lookup n)=true)(e:lA (nsIn cx.K mainGlobals n)=true)(hv:bootBuiltins n=some v)(hn:n≠"__name__")(q:Q v s) :
  wpAny (model cx.prog cx.w) A (eval (.Name n pos) env) Q E s:=by
 obtain⟨p,loose,mg,mb,T⟩:=H.gd.top
 have T':=T.keeps H.st.keep
 have kd:env.kindOf n=some .globalImplicit:=by unfold Env.kindOf;rw[H.env.names];exact eq_256 hg
 exact Name_function_global H.env.kind kd (loadGlobal_builtin (by rw[H.env.glob];exact T'.g) (mg_none_of (H.gd.X.keeps H.st.keep) T'.g (eq_466 e)) (by rw[H.env.bi];exact T'.b) ((T'.builtins n hn).trans hv) q) hd
noncomputable def pN (K:Frag)(x:D)(r:Option (Option Value)):Dc (∃ v,r=some (some v)∧mr K x v):=oK r fun r' e=>oK r' fun v e'=>(qu K x v).bi fun h=>.yes ⟨v,e'▸e,h⟩
theorem eq_473 {x:Nat}{n:Str}{c:D} {pos}(hx:f8 x n=true)(hg:ig (nm.lookup n)=true)(hv:∃ v,nsIn cx.K mainGlobals n=some (some v)∧mr cx.K c v):SE cx Φ d nm (.glo x c) (.Name n pos):=fun ρ σ K A env h₀ ov as s Q E h H t=>by
 obtain⟨sv,_,hd,hc⟩:=eq_255 hx
 obtain⟨v,q,hv⟩:=hv
 exact eq_139 H hd hg q (t.now H.st h (hv _ _ (eq_253 H.gd.X H.st)))
noncomputable def cw:Expr→Bool
 | .Starred ..=>false
 | _=>true
theorem eq_81 {e:Expr}{r:List Expr}(h:cw e=true):starEach (e::r) env=(false,eval e env)::starEach r env:=by
 cases e<;>first | rfl | cases h
theorem eq_82:ly cx Φ d nm .nil []:=fun ρ σ K A env h₀ ov as s Q E h H t pos=>wpAny_items_nil (t [] σ [] as s h (Fw.refl _ _) H.st rfl rfl)
theorem eq_43 {x y:T}{e:Expr}{r:List Expr}(hs:cw e=true)(h1:SE cx Φ d nm x e)(h2:ly cx Φ d nm y r):ly cx Φ d nm (.cons x y) (e::r):=fun ρ σ K A env h₀ ov as s Q E h H t pos=>by
 refine spliced_more (h1 ρ σ _ A env h₀ ov as s _ E h H fun pv σ' v as' s' k f st rv=>?_) (eq_81 hs)
 refine h2 ρ σ' _ A env h₀ ov as' s' _ E k (H.next f st) (fun pvs σ'' vs as'' s'' k' f' st' rvs hl=>?_) pos
 exact t _ σ'' _ as'' s'' k' (f.trans f') st' ⟨v,vs,rfl,f'.vrep rv,rvs⟩ (by simp[hl])
end
mutual
noncomputable def d5:D→PyData
 | .none=>.none
 | .bool b=>.bool b
 | .int i=>.int i
 | .str n=>.str (aJ n)
 | .tup xs=>.tuple (toPys xs)
 | .lst xs=>.list (toPys xs)
noncomputable def toPys:List D→List PyData
 | []=>[]
 | x::xs=>d5 x::toPys xs
end
theorem tY {n:Nat}(h:bc n=true):PyData.strOk (aJ n)=true:=by
 unfold bc at h
 have:=(Bool.and_eq_true_iff.mp h).2
 unfold PyData.strOk aJ
 simpa using this
theorem sQ {m n:Nat}(h:bc m=true)(k:bc n=true)(e:aJ m=aJ n):m=n:=by
 unfold bc at h k
 have h1:cU (bx m)=m:=eq_of_beq (Bool.and_eq_true_iff.mp h).1
 have h2:cU (bx n)=n:=eq_of_beq (Bool.and_eq_true_iff.mp k).1
 have e':bx m=bx n:=by unfold aJ at e;simpa using e
 rw[← h1,← h2,e']
theorem cc.both {P:D→Value→Prop}{h:Heap}{F:AP}(n:P .none .none)(b:∀ b,P (.bool b) (.bool b))(i:∀ i t,P (.int i) (.int i t))(st:∀ n t,bc n=true→P (.str n) (.str (aJ n) t)){Q:List D→List Value→Prop}
  (tu:∀ xs a vs,F a→dr h a (List.toArray vs)→Q xs vs→P (.tup xs) (.ref a))(li:∀ xs a vs,F a→h.PlainList a (List.toArray vs)→Q xs vs→P (.lst xs) (.ref a))(ni:Q [] [])(co:∀ x xs v vs,cc h F x v→P x v→DReps h F xs vs→Q xs vs→Q (x::xs) (v::vs)) :
  (∀ {x v},cc h F x v→P x v)∧∀ {xs vs},DReps h F xs vs→Q xs vs:=by
 have m:=@D.rec (fun x=>∀ v,cc h F x v→P x v) (fun xs=>∀ vs,DReps h F xs vs→Q xs vs) (fun v e=>by cases e;exact n) (fun J v e=>by cases e;exact b _) (fun J v e=>by obtain⟨t,rfl⟩:=e;exact i _ t) (fun J v e=>by obtain⟨sv,t,rfl⟩:=e;exact st _ t sv)
  (fun xs ih v e=>by obtain⟨a,vs,rfl,f,ho,r⟩:=e;exact tu xs a vs f ho (ih vs r)) (fun xs ih v e=>by obtain⟨a,vs,rfl,f,ho,r⟩:=e;exact li xs a vs f ho (ih vs r)) (fun v e=>by cases e;exact ni) (fun x xs ih ihs v e=>by obtain⟨v,r,rfl,p,q⟩:=e;exact co x xs v r p (ih v p) q (ihs r q))
 refine⟨fun {x v}=>m x v,fun {xs}=>?_⟩
 induction xs with
 | nil=>intro vs e;cases e;exact ni
 | cons x xs ih=>intro vs e;obtain⟨v,r,rfl,p,q⟩:=e;exact co x xs v r p (m x v p) q (ih q)
theorem cc.reads {h:Heap}{F:AP}{x:D}{v:Value}(r:cc h F x v):(∃ ls,Reads h v (d5 x) ls)∧(d5 x).canLay0=true:=
 (cc.both (P:=fun x v=>(∃ ls,Reads h v (d5 x) ls)∧(d5 x).canLay0=true) (Q:=fun xs vs=>(∃ ls,ReadsAll h vs (toPys xs) ls)∧PyData.canLayAll0 (toPys xs)=true)
  ⟨⟨_,.none⟩,rfl⟩ (fun b=>⟨⟨_,.bool b⟩,rfl⟩) (fun i t=>⟨⟨_,.int i t⟩,rfl⟩) (fun n t sv=>⟨⟨_,.str _ t⟩,tY sv⟩) (fun J J J J ⟨_,ho⟩ ⟨⟨_,rs⟩,c⟩=>⟨⟨_,.tuple ho rfl rfl rs⟩,c⟩) (fun J J J J ⟨_,ho⟩ ⟨⟨_,rs⟩,c⟩=>⟨⟨_,.list ho rfl rfl rs⟩,c⟩)
  ⟨⟨_,.nil⟩,rfl⟩ fun J J J J J ⟨⟨_,p⟩,c⟩ J ⟨⟨_,q⟩,c'⟩=>⟨⟨_,.cons p q⟩,Bool.and_eq_true_iff.mpr ⟨c,c'⟩⟩).1 r
noncomputable def nD:D→Bool:=D.rec (motive_1:=fun J=>Bool) (motive_2:=fun J=>Bool) true (fun J=>true) (fun J=>true) bc (fun J b=>b) (fun J b=>b) true fun J J a b=>a&&b
theorem cc.oks {h:Heap}{F:AP}{x:D}{v:Value}(r:cc h F x v):nD x=true:=
 (cc.both (P:=fun x J=>nD x=true) (Q:=fun xs J=>nD (.lst xs)=true) rfl (fun J=>rfl) (fun J J=>rfl) (fun J J h=>h) (fun J J J J J h=>h) (fun J J J J J h=>h) rfl fun J J J J J a J b=>Bool.and_eq_true_iff.mpr ⟨a,b⟩).1 r
theorem eq_474 {m n:Nat}(h:bc m=true)(k:bc n=true):(aJ m==aJ n)=(m==n):=by
 by_cases q:m=n
 ·subst q;rw[beq_self_eq_true,beq_self_eq_true]
 ·rw[beq_eq_false_iff_ne.mpr q,beq_eq_false_iff_ne.mpr fun e=>q (sQ h k e)]
theorem tZ (x:D):∀ y,nD x=true→nD y=true→PyData.eqv (d5 x) (d5 y)=D.eqv x y:=
 D.rec (motive_1:=fun x=>∀ y,nD x=true→nD y=true→PyData.eqv (d5 x) (d5 y)=D.eqv x y) (motive_2:=fun xs=>∀ ys,nD (.lst xs)=true→nD (.lst ys)=true→PyData.eqvAll (toPys xs) (toPys ys)=D.eqvs xs ys)
  (fun y J J=>by cases y<;>rfl) (fun b y J J=>by cases y<;>cases b<;>rfl)
  (fun i y J J=>by cases y with
   | bool c=>cases c<;>rfl
   | _=>rfl)
  (fun n y h k=>by cases y with
   | str m=>exact eq_474 h k
   | _=>rfl)
  (fun xs ih y h k=>by cases y with
   | tup ys=>exact ih ys h k
   | _=>rfl)
  (fun xs ih y h k=>by cases y with
   | lst ys=>exact ih ys h k
   | _=>rfl)
  (fun ys J J=>by cases ys<;>rfl)
  (fun x xs ih ihs ys h k=>by
   cases ys with
   | nil=>rfl
   | cons y ys=>
    have h:=Bool.and_eq_true_iff.mp h
    have k:=Bool.and_eq_true_iff.mp k
    show (PyData.eqv _ _&&PyData.eqvAll _ _)=(D.eqv _ _&&D.eqvs _ _)
    rw[ih y h.1 k.1,ihs ys h.2 k.2]) x
theorem cc.eqv {h h':Heap}{F F':AP}{x y:D}{v u:Value}(a:cc h F x v)(b:cc h' F' y u):PyData.eqv (d5 x) (d5 y)=D.eqv x y:=tZ x y a.oks b.oks
theorem eq_83 {x:D}:∀ {n:Nat},D.sha n x=true→(d5 x).depth≤n:=
 D.rec (motive_1:=fun x=>∀ {n:Nat},D.sha n x=true→(d5 x).depth≤n) (motive_2:=fun xs=>∀ {n:Nat},D.shas n xs=true→PyData.depthAll (toPys xs)≤n)
  (fun J=>Nat.zero_le _) (fun J J J=>Nat.zero_le _) (fun J J J=>Nat.zero_le _) (fun J J J=>Nat.zero_le _)
  (fun xs ih n h=>by cases n with
   | zero=>cases h
   | succ n=>exact Nat.succ_le_succ (ih h))
  (fun xs ih n h=>by cases n with
   | zero=>cases h
   | succ n=>exact Nat.succ_le_succ (ih h))
  (fun J=>Nat.zero_le _) (fun x xs ih ihs n h=>have h:=Bool.and_eq_true_iff.mp h;Nat.max_le.mpr ⟨ih h.1,ihs h.2⟩) x
theorem eq_475 {xs:List D}{n:Nat}(h:D.shas n xs=true):PyData.depthAll (toPys xs)≤n:=by
 induction xs with
 | nil=>exact Nat.zero_le _
 | cons x xs ih=>have h:=Bool.and_eq_true_iff.mp h;exact Nat.max_le.mpr ⟨eq_83 h.1,ih h.2⟩
theorem eq_44 {cx:Cx}{h:Heap}{F:AP}{as:List (Addr×Addr)}{xs:List PV}:∀ {ds:List D}{vs:List Value},eB xs=some ds→VReps cx h F as xs vs→DReps h F ds vs:=by
 induction xs with
 | nil=>intro ds vs e r;cases e;exact r
 | cons x xs ih=>
  intro ds vs e r
  obtain⟨v,r,rfl,a,b⟩:=r
  cases x with
  | p d=>obtain⟨ds,q,rfl⟩:=Option.map_eq_some_iff.mp e;exact⟨v,r,rfl,a,ih q b⟩
  | _=>cases e
theorem rR (ds:List D):eB (ds.map .p)=some ds:=by
 induction ds with
 | nil=>rfl
 | cons d ds ih=>show (eB (ds.map .p)).map (d::·)=_;rw[ih];rfl
theorem sa {cx:Cx}{h:Heap}{F:AP}{as:List (Addr×Addr)}{ds:List D}:∀ {vs:List Value},DReps h F ds vs→VReps cx h F as (ds.map .p) vs:=by
 induction ds with
 | nil=>exact id
 | cons d ds ih=>intro vs e;obtain⟨v,r,e,a,b⟩:=e;exact⟨v,r,e,a,ih b⟩
theorem VReps.len {cx:Cx}{h:Heap}{F:AP}{as:List (Addr×Addr)}{xs:List PV}:∀ {vs:List Value},VReps cx h F as xs vs→vs.length=xs.length:=by
 induction xs with
 | nil=>intro vs e;cases e;rfl
 | cons x xs ih=>intro vs e;obtain⟨v,r,rfl,_,b⟩:=e;exact congrArg (·+1) (ih b)
theorem DReps.len {h:Heap}{F:AP}{xs:List D}:∀ {vs:List Value},DReps h F xs vs→vs.length=xs.length:=by
 induction xs with
 | nil=>intro vs e;cases e;rfl
 | cons x xs ih=>intro vs e;obtain⟨v,r,rfl,_,b⟩:=e;exact congrArg (·+1) (ih b)
section
variable {cx:Cx}{Φ:b9}{d:Nat}{nm:List (Str×NameKind)}{ρ:aN}{σ:ak}{A:Around}{env:Env}{h₀:Heap}{ov:List Addr}{as as' as'':List (Addr×Addr)}{s s' s'':Shared}
theorem St.cellOf (t:St cx h₀ ov as σ s.heap){i:Nat}{l:Addr×Addr}{c:Cell}(h1:as[i]?=some l)(h2:σ[i]?=some c):f7 cx s.heap (Fz ov as) as l c:=t.cells i l c h1 h2
theorem eq_45 (t:St cx h₀ ov as σ s.heap){pv:PV}{v:Value}{x:D}(r:az cx s.heap (Fz ov as) as pv v)(e:ja σ pv=some x):cc s.heap (fun J=>True) x v:=by
 cases pv with
 | p q=>cases e;exact cc.mv (F:=Fz ov as) (fun J J J e=>⟨trivial,e⟩) r
 | ref i=>
  obtain⟨l,hl,rfl⟩:=r
  cases hx:σ[i]? with
  | none=>simp[ja,hx] at e
  | some c=>
   cases c with
   | list xs=>
    have e:(eB xs).map .lst=some x:=by simpa [ja,hx] using e
    obtain⟨ds,hp,rfl⟩:=Option.map_eq_some_iff.mp e
    obtain⟨_,vs,il,rs⟩:=t.cellOf hl hx
    exact⟨l.1,vs,rfl,trivial,il,DReps.mv (fun J J J e=>⟨trivial,e⟩) (eq_44 hp rs)⟩
   | _=>simp[ja,hx] at e
 | _=>cases e
theorem rt {c:Bool}{P:Prop}(h:cond c P False):c=true∧P:=by cases c<;>first | exact h.elim | exact⟨rfl,h⟩
theorem eq_257 (a:AOk d A){n:Nat}(h:n≤60):A.units+n<cLine:=by
 have:=a.units
 rw[cLine_is];exact rZ (Nat.add_le_add this h) (by simp +arith only)
theorem eq_258 {x y:D}{r:Bool}(H:AOk d A)(hs:D.sha 60 (bif r then y else x)=true):A.units+min (d5 x).depth (d5 y).depth<cLine:=by
 refine eq_257 H ?_
 cases r with
 | true=>exact Nat.le_trans (Nat.min_le_right _ _) (eq_83 hs)
 | false=>exact Nat.le_trans (Nat.min_le_left _ _) (eq_83 hs)
theorem eq_476 (H:AOk d A)(t:St cx h₀ ov as σ s.heap){va vb:PV}{a b:Value}{x y:D}{r:Bool}(ra:az cx s.heap (Fz ov as) as va a)(rb:az cx s.heap (Fz ov as) as vb b)
  (e1:ja σ va=some x)(e2:ja σ vb=some y)(hs:D.sha 60 (bif r then y else x)=true) {Q E}(q:Q (.bool (D.eqv x y)) s):wpAny (model cx.prog cx.w) A (compareOp .Eq a b) Q E s:=
 have p:=eq_45 t ra e1
 have p':=eq_45 t rb e2
 have ⟨⟨_,l1⟩,c1⟩:=p.reads
 have ⟨⟨_,l2⟩,c2⟩:=p'.reads
 SeqAt.compareEq_reads l1 l2 c1 c2 (eq_258 H hs) (p.eqv p'▸q)
theorem eq_477 (H:AOk d A)(t:St cx h₀ ov as σ s.heap){va vb:PV}{a b:Value}{x y:D}{r:Bool}(ra:az cx s.heap (Fz ov as) as va a)(rb:az cx s.heap (Fz ov as) as vb b)
  (e1:ja σ va=some x)(e2:ja σ vb=some y)(hs:D.sha 60 (bif r then y else x)=true) {Q E}(q:Q (.bool (!D.eqv x y)) s):wpAny (model cx.prog cx.w) A (compareOp .NotEq a b) Q E s:=
 have p:=eq_45 t ra e1
 have p':=eq_45 t rb e2
 have ⟨⟨_,l1⟩,c1⟩:=p.reads
 have ⟨⟨_,l2⟩,c2⟩:=p'.reads
 SeqAt.compareNe_reads l1 l2 c1 c2 (eq_258 H hs) (p.eqv p'▸q)
theorem eq_259 {x:D}{h h':Heap}{F F':AP}{v:Value}(r:cc h F x v){ys:List D}:∀ {us:List Value},DReps h' F' ys us→((toPys ys).any fun y=>PyData.eqv y (d5 x))=dY x ys:=by
 induction ys with
 | nil=>exact fun J=>rfl
 | cons y ys ih=>
  intro us e
  obtain⟨u,us,_,a,b⟩:=e
  show (PyData.eqv _ _||(toPys ys).any _)=(D.eqv y x||dY x ys)
  rw[a.eqv r,ih b]
theorem FReps.len {cx:Cx}{h:Heap}{F:AP}{as:List (Addr×Addr)}{ks:List Nat}:∀ {vs:List PV}{f:Str→Option Value},FReps cx h F as ks vs f→ks.length=vs.length:=by
 induction ks with
 | nil=>intro vs f r;cases vs with
  | nil=>rfl
  | cons _ _=>exact nomatch r.1
 | cons n ns ih=>intro vs f r;cases vs with
  | nil=>exact r.elim
  | cons w vs=>exact congrArg (·+1) (ih r.2.2)
theorem eq_260 {f:Str→Option Value}{k n:Nat}(sk:bc k=true)(sn:bc n=true)(hb:(n==k)=false):(if aJ k=aJ n then none else f (aJ k))=f (aJ k):=if_neg fun q=>by rw[sQ sk sn q,beq_self_eq_true] at hb;cases hb
theorem eq_46 {cx:Cx}{h:Heap}{F:AP}{as:List (Addr×Addr)}{k:Nat}(sk:bc k=true){ks:List Nat}:∀ {vs:List PV}{f:Str→Option Value}{v:PV},FReps cx h F as ks vs f→cJ k ks vs=some v→∃ u,f (aJ k)=some u∧az cx h F as v u:=by
 induction ks with
 | nil=>intro vs f v _ e;cases vs<;>cases e
 | cons n ns ih=>intro vs f v r e;cases vs with
  | nil=>exact r.elim
  | cons w vs=>
   obtain⟨sn,⟨u,e1,r1⟩,r2⟩:=r
   replace e:(bif n==k then some w else cJ k ns vs)=some v:=e
   cases hb:n==k with
   | true=>rw[hb] at e;cases e;rw[← eq_of_beq hb];exact⟨u,e1,r1⟩
   | false=>
    rw[hb] at e
    obtain⟨u',e',r'⟩:=ih r2 e
    exact⟨u',(eq_260 sk sn hb).symm.trans e',r'⟩
theorem eq_84 {cx:Cx}{h:Heap}{F:AP}{as:List (Addr×Addr)}{k:Nat}(sk:bc k=true){ks:List Nat}:∀ {vs:List PV}{f:Str→Option Value},FReps cx h F as ks vs f→ks.any (·==k)=false→f (aJ k)=none:=by
 induction ks with
 | nil=>intro vs f r _;cases vs with
  | nil=>exact r.2 _
  | cons _ _=>exact nomatch r.1
 | cons n ns ih=>intro vs f r e;cases vs with
  | nil=>exact r.elim
  | cons w vs=>
   have e:=Bool.or_eq_false_iff.mp e
   exact(eq_260 sk r.1 e.1).symm.trans (ih r.2.2 e.2)
theorem eq_140 {ks:List Nat}{k:Nat}:∀ {vs:List PV},ks.length=vs.length→(cJ k ks vs).isSome=ks.any (·==k):=by
 induction ks with
 | nil=>intro vs _;cases vs<;>rfl
 | cons n ns ih=>intro vs e;cases vs with
  | nil=>cases e
  | cons w vs=>
   show (bif n==k then some w else cJ k ns vs).isSome=(n==k||ns.any (·==k))
   cases n==k with
   | true=>rfl
   | false=>exact ih (Nat.succ.inj e)
theorem eq_47 (t:St cx h₀ ov as σ s.heap){pv:PV}{v:Value}{ks:List Nat}{vs:List PV}(r:az cx s.heap (Fz ov as) as pv v)(e:bC σ pv=some (ks,vs)) :
  ∃ a f,v=.ref a∧ce cx s.heap a ks.length f∧FReps cx s.heap (Fz ov as) as ks vs f:=by
 cases pv with
 | dct ks' vs'=>cases e;obtain⟨a,f,e,_,d,q⟩:=r;exact⟨a,f,e,d,q⟩
 | ref i=>
  obtain⟨l,hl,rfl⟩:=r
  cases hx:σ[i]? with
  | none=>simp[bC,hx] at e
  | some c=>
   cases c with
   | dict ks' vs'=>
    have e:some (ks',vs')=some (ks,vs):=by simpa [bC,hx] using e
    cases e
    obtain⟨_,f,d,q⟩:=t.cellOf hl hx
    exact⟨l.1,f,rfl,d,q⟩
   | _=>simp[bC,hx] at e
 | _=>cases e
end
section
variable {cx:Cx}{Φ:b9}{d:Nat}{nm:List (Str×NameKind)}{ρ:aN}{σ:ak}{A:Around}{env:Env}{h₀:Heap}{ov:List Addr}{as as' as'':List (Addr×Addr)}{s s' s'':Shared}
def pO (cx:Cx)(Φ:b9) (d:Nat)(nm:List (Str×NameKind))(x:T)(e:Expr):Prop:=
 ∀ ρ σ (K:Bool→ak→Prop) A env h₀ ov as s (Q:Bool→Shared→Prop) E,bR cx.P.tab Φ x ρ σ (bK K)→Here cx d nm ρ σ A env h₀ ov as s→
  (∀ b σ' as' s',K b σ'→Fw as as' s s'→St cx h₀ ov as' σ' s'.heap→Q b s')→wpAny (model cx.prog cx.w) A (PySem.isTrue e env (eval e env)) Q E s
def ed (cx:Cx)(Φ:b9) (d:Nat)(nm:List (Str×NameKind))(x:T)(e:Expr):Prop:=SE cx Φ d nm x e∧pO cx Φ d nm x e
theorem eq_85 {K:Bool→ak→Prop}{v:PV}{σ:ak}(h:bK K v σ):∃ b,v=.p (.bool b)∧K b σ:=by
 cases v with
 | p d=>cases d with
  | bool b=>exact⟨b,rfl,h⟩
  | _=>exact h.elim
 | _=>exact h.elim
theorem eq_261 {K:D→ak→Prop}{v:PV}{σ:ak}(h:dK K v σ):∃ b,v=.p b∧K b σ:=by
 cases v with
 | p d=>exact⟨d,rfl,h⟩
 | _=>exact h.elim
noncomputable def f9:Expr→Bool
 | .UnaryOp .Not ..=>false
 | .BoolOp ..=>false
 | .IfExp ..=>false
 | .Compare ..=>false
 | _=>true
set_option tactic.hygienic true in
theorem eq_478 {x:T}{e:Expr}(he:f9 e=true)(h:SE cx Φ d nm x e):pO cx Φ d nm x e:=fun ρ σ K A env h₀ ov as s Q E hx H t=>by
 refine wpAny_isTrue_value (h ρ σ _ A env h₀ ov as s _ E hx H fun pv σ' v as' s' k f st r=>?_) ?_
 ·obtain⟨b,rfl,k⟩:=eq_85 k
  obtain rfl:v=.bool b:=r
  exact wpAny_truthy_bool (t _ _ _ _ k f st)
 ·cases e<;>first | rfl | (cases he;done) | (rename_i op _ _;cases op<;>first | rfl | cases he)
theorem eq_48 {h:Heap}{F:AP}{as:List (Addr×Addr)}{pvs:List PV}{vs:List Value}{a:Addr}(f:F a)(ho:dr h a (List.toArray vs))(r:VReps cx h F as pvs vs):az cx h F as (dX pvs) (.ref a):=by
 unfold dX
 cases e:eB pvs with
 | some ds=>exact⟨a,vs,rfl,f,ho,eq_44 e r⟩
 | none=>exact⟨a,vs,rfl,f,ho,r⟩
theorem eq_479 {es:T}{elts:List Expr}{k:Nat}{pos:Pos}(hl:elts.length≤1000)(h:ly cx Φ d nm es elts):SE cx Φ d nm (.tup es) (.Tuple elts k pos):=fun ρ σ K A env h₀ ov as s Q E hx H t=>by
 refine Tuple_ (h ρ σ _ A env h₀ ov as s _ E hx H (fun pvs σ' vs as' s' k f st r hn=>?_) pos)
 refine wpAny_newObj_type ?_ (by show vs.toArray.size≤sizeLine;rw[size_toArray,sizeLine_eq];exact u6 hn hl rfl)
 obtain⟨st',f'⟩:=st.push {cls:=.type "tuple",data:=.seq vs.toArray}
 exact t _ σ' _ as' _ k (f.trans f') st' (eq_48 (st.fresh (rp _)) ⟨_,Heap.get?_push_size _ rfl⟩ (f'.vreps r))
theorem eq_49 (st:St cx h₀ ov as σ s.heap){m:Bool}{pvs:List PV}{vs:List Value}{K:KP}(k:lO m pvs σ K)(r:VReps cx s.heap (Fz ov as) as pvs vs){Q:VS}(t:di cx h₀ ov as s K Q)
  {h':Heap}{a:Addr}{tk:Nat}(kp:∀ b x,s.heap.get? b=some x→h'.get? b=some x)(n:s.heap.get? a=none)(il:h'.PlainList a (List.toArray vs)):Q (.ref a) {s with heap:=h',toks:=tk}:=by
 cases m with
 | true=>
  have mv:Mv s.heap h' (Fz ov as) (Fz ov (as++[(a,a)])):=fun b o f e=>⟨⟨f.1,sP f.2 fun l hl=>by
   rw[mem_singleton.mp hl];exact⟨rh e n,rh e n⟩⟩,kp _ _ e⟩
  obtain⟨st',f'⟩:=st.add (l:=(a,a)) (c:=.list pvs) kp n n ⟨rfl,vs,il,VReps.mv mv (cB.app _ _) r⟩ tk
  exact t _ _ _ _ _ k f' st' ⟨(a,a),by rw[← st.len];simp,rfl⟩
 | false=>
  obtain⟨ds,e,k⟩:=rf (o:=eB pvs) (k:=fun ds=>K (.p (.lst ds)) σ) k
  obtain⟨st',f'⟩:=st.kp kp tk
  exact t _ σ _ as _ k f' st' ⟨a,vs,rfl,st.fresh n,il,eq_44 e (f'.vreps r)⟩
theorem eq_19 (h:Heap)(vs:Array Value):(h.push {cls:=.type "list",data:=.seq vs}).PlainList h.objs.size vs:=⟨_,Heap.get?_push_size _ rfl⟩
theorem eq_480 {m:Bool}{es:T}{elts:List Expr}{pos:Pos}(hl:elts.length≤1000)(h:ly cx Φ d nm es elts):SE cx Φ d nm (.lis m es) (.List elts pos):=fun ρ σ K A env h₀ ov as s Q E hx H t=>by
 refine List_ (h ρ σ _ A env h₀ ov as s _ E hx H (fun pvs σ' vs as' s' k f st r hn=>?_) pos)
 refine wpAny_newObj_type ?_ (by show vs.toArray.size≤sizeLine;rw[size_toArray,sizeLine_eq];exact u6 hn hl rfl)
 exact eq_49 st k r (t.fw f) (fun J J e=>Heap.get?_push_of_some _ e) (rp _) (eq_19 _ _)
theorem eq_481 (a:AOk d A){r:Bool}{x:D}{ys:List D}(h:(bif r then D.shas 60 ys else D.sha 60 x)=true):A.units+1+min (PyData.depthAll (toPys ys)) (d5 x).depth<cLine:=by
 have:=a.units
 have q:min (PyData.depthAll (toPys ys)) (d5 x).depth≤60:=by
  cases r with
  | true=>exact Nat.le_trans (Nat.min_le_left _ _) (eq_475 h)
  | false=>exact Nat.le_trans (Nat.min_le_right _ _) (eq_83 h)
 rw[cLine_is];exact rZ (Nat.add_le_add q this) (by simp +arith only)
theorem eq_482 (H:AOk d A)(t:St cx h₀ ov as σ s.heap){x:D}{vb:PV}{a b:Value}{ys:List D}{r:Bool}{y:D}(hy:y=.tup ys∨y=.lst ys)(ra:az cx s.heap (Fz ov as) as (.p x) a)(rb:az cx s.heap (Fz ov as) as vb b)(e:ja σ vb=some y)
  (hs:(bif r then D.shas 60 ys else D.sha 60 x)=true) {Q E} :
  (Q (.bool (dY x ys)) s→wpAny (model cx.prog cx.w) A (compareOp .In a b) Q E s)∧(Q (.bool (!dY x ys)) s→wpAny (model cx.prog cx.w) A (compareOp .NotIn a b) Q E s):=by
 have ra':cc s.heap (Fz ov as) x a:=ra
 obtain⟨⟨l1,p1⟩,c1⟩:=ra'.reads
 have rb':=eq_45 t rb e
 obtain⟨⟨l2,p2⟩,c2⟩:=rb'.reads
 have rm:=eq_481 H hs
 rcases hy with rfl | rfl
 ·obtain⟨_,us,_,_,_,q⟩:=rb'
  rw[← eq_259 ra' q]
  exact⟨fun h=>SeqAt.in_tuple_reads p2 p1 c2 c1 rm h,fun h=>SeqAt.notIn_tuple_reads p2 p1 c2 c1 rm h⟩
 ·obtain⟨_,us,_,_,_,q⟩:=rb'
  rw[← eq_259 ra' q]
  exact⟨fun h=>SeqAt.in_list_reads p2 p1 c2 c1 rm h,fun h=>SeqAt.notIn_list_reads p2 p1 c2 c1 rm h⟩
theorem eq_141 (t:St cx h₀ ov as σ s.heap){k:Nat}{a b:Value}{vb:PV}{ks:List Nat}{vs:List PV}(ra:az cx s.heap (Fz ov as) as (.p (.str k)) a)(rb:az cx s.heap (Fz ov as) as vb b)(e:bC σ vb=some (ks,vs)) :
  ∃ tk c f,a=.str (aJ k) tk∧b=.ref c∧ce cx s.heap c ks.length f∧FReps cx s.heap (Fz ov as) as ks vs f∧(f (aJ k)).isSome=ks.any (·==k)∧bc k=true:=by
 obtain⟨sk,tk,rfl⟩:=ra
 obtain⟨c,f,rfl,hd,q⟩:=eq_47 t rb e
 refine⟨tk,c,f,rfl,rfl,hd,q,?_,sk⟩
 cases hq:ks.any (·==k) with
 | false=>rw[eq_84 sk q hq];rfl
 | true=>
  rw[← eq_140 (vs:=vs) q.len] at hq
  obtain⟨v,hv⟩:=Option.isSome_iff_exists.mp hq
  obtain⟨u,hu,_⟩:=eq_46 sk q hv
  rw[hu];rfl
theorem eq_1 {v:PV}{x:D}(h:nQ v=some x):v=.p x:=by
 cases v<;>cases h;rfl
theorem eq_483 {v:D}{x:Int}(h:dI v=some x):v=.int x:=by
 cases v<;>cases h;rfl
theorem eq_86 {v:D}{x:Nat}(h:dS v=some x):v=.str x:=by
 cases v<;>cases h;rfl
theorem eq_262 {v:D}{x:List D}(h:dQ v=some x):v=.tup x∨v=.lst x:=by
 cases v<;>cases h
 ·exact .inl rfl
 ·exact .inr rfl
theorem sR {v:PV}{x:Int}(h:kB v=some x):v=.p (.int x):=by
 obtain⟨d,e,h⟩:=Option.bind_eq_some_iff.mp h
 rw[eq_1 e,eq_483 h]
theorem eq_2 {v:PV}{x:Nat}(h:mS v=some x):v=.p (.str x):=by
 obtain⟨d,e,h⟩:=Option.bind_eq_some_iff.mp h
 rw[eq_1 e,eq_86 h]
theorem eq_484 {v:D}{x:List D}(h:dT v=some x):v=.tup x:=by
 cases v<;>cases h;rfl
theorem eq_263 {v:D}{x:List D}(h:dL v=some x):v=.lst x:=by
 cases v<;>cases h;rfl
theorem eq_142 {v:PV}{x:List D}(h:jm v=some x):v=.p (.tup x):=by
 obtain⟨d,e,h⟩:=Option.bind_eq_some_iff.mp h
 rw[eq_1 e,eq_484 h]
theorem eq_143 {v:PV}{x:List D}(h:jn v=some x):v=.p (.lst x):=by
 obtain⟨d,e,h⟩:=Option.bind_eq_some_iff.mp h
 rw[eq_1 e,eq_263 h]
theorem sS {va vb:PV}{a b:Value}{K:Int→Int→Prop}(h0:mU va vb K){hp:Heap}{F:AP}(ra:az cx hp F as va a)(rb:az cx hp F as vb b):∃ x y t u,a=.int x t∧b=.int y u∧K x y:=by
 obtain⟨x,e1,h1⟩:=rf h0
 obtain⟨y,e2,h⟩:=rf h1
 clear h0
 cases sR e1;cases sR e2
 obtain⟨t,rfl⟩:=ra
 obtain⟨u,rfl⟩:=rb
 exact⟨x,y,t,u,rfl,rfl,h⟩
theorem eq_264 {r:Bool}{a b:PV}{K:Bool→Prop}(h:n3 r a b σ K):∃ x y,ja σ a=some x∧ja σ b=some y∧D.sha 60 (bif r then y else x)=true∧K (D.eqv x y):=by
 obtain⟨x,e1,h⟩:=rf h
 obtain⟨y,e2,h⟩:=rf h
 exact⟨x,y,e1,e2,rt h⟩
theorem eq_265 {r:Bool}{va vb:PV}{a b:Value}{K:Bool→Prop}(h0:pF r va vb σ K)(H:AOk d A)(t:St cx h₀ ov as σ s.heap)(ra:az cx s.heap (Fz ov as) as va a)(rb:az cx s.heap (Fz ov as) as vb b) :
  ∃ c n,K c∧∀ {Q E},(Q (.bool c) {s with toks:=n}→wpAny (model cx.prog cx.w) A (compareOp .In a b) Q E s)∧(Q (.bool (!c)) {s with toks:=n}→wpAny (model cx.prog cx.w) A (compareOp .NotIn a b) Q E s):=by
 obtain⟨x,e1,h⟩:=rf h0
 clear h0
 cases eq_1 e1
 cases e:bC σ vb with
 | some dd=>
  rw[e] at h
  obtain⟨k,ek,h⟩:=rf h
  cases eq_86 ek
  obtain⟨tk,c,f,rfl,rfl,hd,_,hs,sk⟩:=eq_141 (ks:=dd.1) (vs:=dd.2) t ra rb e
  refine⟨_,s.toks+1,h,fun {Q E}=>⟨fun q=>wpAny_in_of (strKind_is _ _ _ _) hd.sys hd.map ?_,fun q=>wpAny_notIn_of (strKind_is _ _ _ _) hd.sys hd.map ?_⟩⟩<;>rw[hs]<;>exact q
 | none=>
  rw[e] at h
  obtain⟨y,e2,h⟩:=rf h
  obtain⟨ys,e3,h⟩:=rf h
  obtain⟨hs,h⟩:=rt h
  exact⟨_,s.toks,h,eq_482 H t (eq_262 e3) ra rb e2 hs⟩
theorem eq_485 {op:CmpOp}{r:Bool}{va vb:PV}{a b:Value}{K:Bool→Prop}(k:n4 op r va vb σ K)(H:AOk d A)(t:St cx h₀ ov as σ s.heap)(ra:az cx s.heap (Fz ov as) as va a)(rb:az cx s.heap (Fz ov as) as vb b)
  {Q E}(q:∀ c n,K c→Q (.bool c) {s with toks:=n}):wpAny (model cx.prog cx.w) A (compareOp op a b) Q E s:=by
 cases op with
 | Eq=>obtain⟨x,y,e1,e2,hs,k⟩:=eq_264 k;exact eq_476 H t ra rb e1 e2 hs (q _ s.toks k)
 | NotEq=>obtain⟨x,y,e1,e2,hs,k⟩:=eq_264 (K:=fun c=>K (!c)) k;exact eq_477 H t ra rb e1 e2 hs (q _ s.toks k)
 | In=>obtain⟨c,n,k,z⟩:=eq_265 k H t ra rb;exact z.1 (q _ n k)
 | NotIn=>obtain⟨c,n,k,z⟩:=eq_265 (K:=fun c=>K (!c)) k H t ra rb;exact z.2 (q _ n k)
 | Lt=>obtain⟨x,y,t1,t2,rfl,rfl,k⟩:=sS (K:=fun x y=>K (decide (x<y))) k ra rb;exact lt_int (q _ s.toks k)
 | LtE=>obtain⟨x,y,t1,t2,rfl,rfl,k⟩:=sS (K:=fun x y=>K (decide (x≤y))) k ra rb;exact le_int (q _ s.toks k)
 | Gt=>obtain⟨x,y,t1,t2,rfl,rfl,k⟩:=sS (K:=fun x y=>K (decide (y<x))) k ra rb;exact gt_int (q _ s.toks k)
 | GtE=>obtain⟨x,y,t1,t2,rfl,rfl,k⟩:=sS (K:=fun x y=>K (decide (y≤x))) k ra rb;exact ge_int (q _ s.toks k)
 | _=>exact k.elim
theorem eq_266 {op:CmpOp}{r:Bool}{x y:T}{l rr:Expr} {Q E}{K:Bool→ak→Prop}(h1:SE cx Φ d nm x l)(h2:SE cx Φ d nm y rr)
  (hx:bR cx.P.tab Φ x ρ σ fun va σ=>bR cx.P.tab Φ y ρ σ fun vb σ=>n4 op r va vb σ fun c=>K c σ)(H:Here cx d nm ρ σ A env h₀ ov as s)
  (t:∀ b σ' as' s',K b σ'→Fw as as' s s'→St cx h₀ ov as' σ' s'.heap→Q (.bool b) s') :
  wpAny (model cx.prog cx.w) A (eval l env) (fun a s₁=>wpAny (model cx.prog cx.w) A (eval rr env) (fun b s₂=>wpAny (model cx.prog cx.w) A (compareOp op a b) Q E s₂) E s₁) E s:=by
 refine h1 ρ σ _ A env h₀ ov as s _ E hx H fun pa σ1 a as1 s1 k1 f1 st1 ra=>?_
 refine h2 ρ σ1 _ A env h₀ ov as1 s1 _ E k1 (H.next f1 st1) fun pb σ2 b as2 s2 k2 f2 st2 rb=>?_
 exact eq_485 k2 H.a st2 (f2.vrep ra) rb fun c n kc=>t c σ2 as2 _ kc ((f1.trans f2).trans (Fw.toks _ _ n)) st2
theorem eq_486 {op:CmpOp}{r:Bool}{x y:T}{l rr:Expr}{pos:Pos}(hb:behindInMarks op rr=false)(h1:SE cx Φ d nm x l)(h2:SE cx Φ d nm y rr):ed cx Φ d nm (.cmp op r x y) (.Compare l [op] [rr] pos):=by
 refine⟨fun ρ σ K A env h₀ ov as s Q E hx H t=>?_,fun ρ σ K A env h₀ ov as s Q E hx H t=>?_⟩
 ·exact wpAny_Compare1 (eq_266 (K:=fun b σ=>K (.p (.bool b)) σ) h1 h2 hx H fun b σ' as' s' k f st=>t _ _ _ _ _ k f st rfl) hb
 ·exact wpAny_isTrue_Compare1 (eq_266 (K:=K) (Q:=fun c s₃=>wpAny (model cx.prog cx.w) A (truthy c) Q E s₃) h1 h2 hx H fun b σ' as' s' k f st=>wpAny_truthy_bool (t _ _ _ _ k f st)) hb
theorem eq_267 {va:PV}{a:Value}{F:AP}{h:Heap}(ra:az cx h F as va a):(a==Value.none)=gW va∧PySem.plainIs a .none=true∧handedIn a=true:=by
 cases va with
 | p x=>
  cases x with
  | none=>cases ra;exact⟨rfl,rfl,rfl⟩
  | bool b=>cases ra;exact⟨rfl,rfl,rfl⟩
  | int i=>obtain⟨_,rfl⟩:=ra;exact⟨rfl,rfl,rfl⟩
  | str n=>obtain⟨_,_,rfl⟩:=ra;exact⟨rfl,rfl,rfl⟩
  | tup xs=>obtain⟨_,_,rfl,_⟩:=ra;exact⟨rfl,rfl,rfl⟩
  | lst xs=>obtain⟨_,_,rfl,_⟩:=ra;exact⟨rfl,rfl,rfl⟩
 | mix xs=>obtain⟨_,_,rfl,_⟩:=ra;exact⟨rfl,rfl,rfl⟩
 | inst c ns vs=>obtain⟨_,_,_,rfl,_⟩:=ra;exact⟨rfl,rfl,rfl⟩
 | dct ks vs=>obtain⟨_,_,rfl,_⟩:=ra;exact⟨rfl,rfl,rfl⟩
 | ref i=>obtain⟨_,_,rfl⟩:=ra;exact⟨rfl,rfl,rfl⟩
theorem eq_268 {neg:Bool}{x:T}{l:Expr}{k:Nat}{p:Pos} {Q E}{K:Bool→ak→Prop}(h1:SE cx Φ d nm x l)
  (hx:bR cx.P.tab Φ x ρ σ fun va σ=>K (gW va != neg) σ)(H:Here cx d nm ρ σ A env h₀ ov as s)
  (t:∀ b σ' as' s',K b σ'→Fw as as' s s'→St cx h₀ ov as' σ' s'.heap→Q (.bool b) s') :
  wpAny (model cx.prog cx.w) A (eval l env) (fun a s₁=>wpAny (model cx.prog cx.w) A (eval (.Constant .none k p) env) (fun b s₂=>wpAny (model cx.prog cx.w) A (compareOp (if neg then CmpOp.IsNot else CmpOp.Is) a b) Q E s₂) E s₁) E s:=by
 refine h1 ρ σ _ A env h₀ ov as s _ E hx H fun pa σ1 a as1 s1 k1 f1 st1 ra=>?_
 refine wpAny_Constant_none ?_
 have ⟨e,hp,_⟩:=eq_267 ra
 cases neg with
 | true=>exact wpAny_isNot_plain hp (by rw[e];exact t _ σ1 as1 s1 (by simpa using k1) f1 st1)
 | false=>exact wpAny_is_plain hp (by rw[e];exact t _ σ1 as1 s1 (by simpa using k1) f1 st1)
theorem eq_487 {neg:Bool}{x:T}{l:Expr}{k:Nat}{p pos:Pos}(h1:SE cx Φ d nm x l):ed cx Φ d nm (.isn neg x) (.Compare l [if neg then CmpOp.IsNot else CmpOp.Is] [.Constant .none k p] pos):=by
 have hb:behindInMarks (if neg then CmpOp.IsNot else CmpOp.Is) (Expr.Constant Const.none k p)=false:=by cases neg<;>rfl
 refine⟨fun ρ σ K A env h₀ ov as s Q E hx H t=>?_,fun ρ σ K A env h₀ ov as s Q E hx H t=>?_⟩
 ·exact wpAny_Compare1 (eq_268 (K:=fun b σ=>K (.p (.bool b)) σ) h1 hx H fun b σ' as' s' k f st=>t _ _ _ _ _ k f st rfl) hb
 ·exact wpAny_isTrue_Compare1 (eq_268 (K:=K) (Q:=fun c s₃=>wpAny (model cx.prog cx.w) A (truthy c) Q E s₃) h1 hx H fun b σ' as' s' k f st=>wpAny_truthy_bool (t _ _ _ _ k f st)) hb
theorem eq_269 {a b:Addr}{vs:List Value}{neg:Bool}(ha:A.units<cLine)(il:s.heap.IsList a (List.toArray vs))(ib:s.heap.IsList b (List.toArray [])) {Q E}(q:Q (.bool (neg != vs.isEmpty)) s) :
  wpAny (model cx.prog cx.w) A (compareOp (if neg then CmpOp.NotEq else CmpOp.Eq) (.ref a) (.ref b)) Q E s:=by
 cases vs with
 | nil=>
  cases neg with
  | true=>exact(SeqAt.RcNeAt.lists (e:=fun J=>true) il ib rfl ha (fun j h1 J=>by simp at h1)) _ _ _ _ (by simpa using q)
  | false=>exact(SeqAt.RcAt.lists (e:=fun J=>true) il ib rfl ha (fun j h1 J=>by simp at h1)) _ _ _ _ (by simpa using q)
 | cons v r=>
  cases neg with
  | true=>exact(SeqAt.RcNeAt.lists_lengths il ib (by simp) ha) _ _ _ _ (by simpa using q)
  | false=>exact(SeqAt.RcAt.lists_lengths il ib (by simp) ha) _ _ _ _ (by simpa using q)
end
section
variable {cx:Cx}{Φ:b9}{d:Nat}{nm:List (Str×NameKind)}{ρ:aN}{σ:ak}{A:Around}{env:Env}{h₀:Heap}{ov:List Addr}{as as' as'':List (Addr×Addr)}{s s' s'':Shared}
theorem eq_488 (a:AOk d A):A.units<cLine:=by have:=a.units;rw[cLine_is];exact rZ this (by simp +arith only)
theorem eq_489 {h:Heap}{F:AP}{xs:List PV}{vs:List Value}(r:VReps cx h F as xs vs):vs.isEmpty=xs.isEmpty:=by
 cases xs with
 | nil=>cases r;rfl
 | cons x xs=>obtain⟨_,_,rfl,_⟩:=r;rfl
theorem eq_490 {h:Heap}{F:AP}{xs:List D}{vs:List Value}(r:DReps h F xs vs):vs.isEmpty=xs.isEmpty:=by
 cases xs with
 | nil=>cases r;rfl
 | cons x xs=>obtain⟨_,_,rfl,_⟩:=r;rfl
theorem eq_491 {xs:List D}:PyData.eqv (d5 (.tup xs)) (.tuple [])=xs.isEmpty:=by
 cases xs<;>rfl
theorem eq_270 {neg l:Bool}{x:T}{le rr:Expr} {Q E}{K:Bool→ak→Prop}(h1:SE cx Φ d nm x le)
  (hr:(l=true∧∃ p,rr=.List [] p)∨(l=false∧∃ k p,rr=.Tuple [] k p))
  (hx:bR cx.P.tab Φ x ρ σ fun va σ=>oS l va σ fun b=>K (neg != b) σ)(H:Here cx d nm ρ σ A env h₀ ov as s)
  (t:∀ b σ' as' s',K b σ'→Fw as as' s s'→St cx h₀ ov as' σ' s'.heap→Q (.bool b) s') :
  wpAny (model cx.prog cx.w) A (eval le env) (fun a s₁=>wpAny (model cx.prog cx.w) A (eval rr env) (fun b s₂=>wpAny (model cx.prog cx.w) A (compareOp (if neg then CmpOp.NotEq else CmpOp.Eq) a b) Q E s₂) E s₁) E s:=by
 refine h1 ρ σ _ A env h₀ ov as s _ E hx H fun pa σ1 a as1 s1 k1 f1 st1 ra=>?_
 have u:=eq_488 H.a
 rcases hr with ⟨rfl,p,rfl⟩ | ⟨rfl,k,p,rfl⟩
 ·refine List_ (wpAny_items_nil (wpAny_newObj_type ?_ (Nat.zero_le _)))
  obtain⟨st',f'⟩:=st1.push {cls:=.type "list",data:=.seq ([]:List Value).toArray}
  have ib:=eq_19 s1.heap ([]:List Value).toArray
  cases pa with
  | p x=>
   obtain⟨xs,e,k1⟩:=rf k1
   cases eq_143 e
   obtain⟨c,vs,rfl,_,il,r⟩:=ra
   exact eq_269 (s:={s1 with heap:=_}) u (il.isList.push _) ib.isList (t _ σ1 as1 _ (by rw[eq_490 r];exact k1) (f1.trans f') st')
  | ref i=>
   obtain⟨xs,hxs,k1⟩:=eq_254 k1
   obtain⟨ll,hl,rfl⟩:=ra
   obtain⟨_,vs,il,r⟩:=st1.cellOf hl hxs
   exact eq_269 (s:={s1 with heap:=_}) u (il.isList.push _) ib.isList (t _ σ1 as1 _ (by rw[eq_489 r];exact k1) (f1.trans f') st')
  | _=>exact k1.elim
 ·refine Tuple_ (wpAny_items_nil (wpAny_newObj_type ?_ (Nat.zero_le _)))
  obtain⟨st',f'⟩:=st1.push {cls:=.type "tuple",data:=.seq ([]:List Value).toArray}
  have ib:=IsTup.new s1.heap ([]:List Value).toArray
  obtain⟨xs,e,k1⟩:=rf k1
  cases eq_142 e
  have r':cc (s1.heap.push {cls:=.type "tuple",data:=.seq ([]:List Value).toArray}) (Fz ov as1) (.tup xs) a:=f'.vrep (cx:=cx) ra
  obtain⟨⟨l1,p1⟩,c1⟩:=r'.reads
  obtain⟨o,ho,hc,n,hd⟩:=ib
  have p2:Reads (s1.heap.push {cls:=.type "tuple",data:=.seq ([]:List Value).toArray}) (.ref s1.heap.objs.size) (.tuple []) []:=.tuple ho hc hd .nil
  have rm:A.units+min (d5 (.tup xs)).depth (PyData.tuple []).depth<cLine:=eq_257 H.a (Nat.le_trans (Nat.min_le_right _ _) (show 1≤60 by decide))
  have q:=t _ σ1 as1 _ k1 (f1.trans f') st'
  rw[← eq_491] at q
  cases neg with
  | true=>exact SeqAt.compareNe_reads (s:={s1 with heap:=_}) p1 p2 c1 rfl rm (by rw[Bool.true_bne] at q;exact q)
  | false=>exact SeqAt.compareEq_reads (s:={s1 with heap:=_}) p1 p2 c1 rfl rm (by rw[Bool.false_bne] at q;exact q)
theorem eq_492 {neg l:Bool}{x:T}{le rr:Expr}{pos:Pos}(h1:SE cx Φ d nm x le)(hr:(l=true∧∃ p,rr=.List [] p)∨(l=false∧∃ k p,rr=.Tuple [] k p)) :
  ed cx Φ d nm (.emp neg l x) (.Compare le [if neg then CmpOp.NotEq else CmpOp.Eq] [rr] pos):=by
 have hb:behindInMarks (if neg then CmpOp.NotEq else CmpOp.Eq) rr=false:=by
  rcases hr with ⟨_,p,rfl⟩ | ⟨_,k,p,rfl⟩<;>cases neg<;>rfl
 refine⟨fun ρ σ K A env h₀ ov as s Q E hx H t=>?_,fun ρ σ K A env h₀ ov as s Q E hx H t=>?_⟩
 ·exact wpAny_Compare1 (eq_270 (K:=fun b σ=>K (.p (.bool b)) σ) h1 hr hx H fun b σ' as' s' k f st=>t _ _ _ _ _ k f st rfl) hb
 ·exact wpAny_isTrue_Compare1 (eq_270 (K:=K) (Q:=fun c s₃=>wpAny (model cx.prog cx.w) A (truthy c) Q E s₃) h1 hr hx H fun b σ' as' s' k f st=>wpAny_truthy_bool (t _ _ _ _ k f st)) hb
theorem eq_493 {b:Bool} {Q E}(h:Q (.bool (!b)) s):wpAny (model cx.prog cx.w) A (unaryOp .Not (.bool b)) Q E s:=not_of (wpAny_truthy_bool h)
theorem eq_494 {x:T}{e:Expr}{pos:Pos}(h:ed cx Φ d nm x e):ed cx Φ d nm (.not x) (.UnaryOp .Not e pos):=by
 refine⟨fun ρ σ K A env h₀ ov as s Q E hx H t=>?_,fun ρ σ K A env h₀ ov as s Q E hx H t=>?_⟩
 ·refine wpAny_UnaryOp (h.1 ρ σ _ A env h₀ ov as s _ E hx H fun pv σ' v as' s' k f st r=>?_)
  obtain⟨b,rfl,k⟩:=eq_85 k
  obtain rfl:v=.bool b:=r
  exact eq_493 (t _ _ _ _ _ k f st rfl)
 ·exact wpAny_isTrue_Not (h.2 ρ σ _ A env h₀ ov as s _ E hx H fun b σ' as' s' k f st=>t _ _ _ _ k f st)
theorem eq_495 {x y z:T}{e1 e2 e3:Expr}{pos:Pos}(h1:ed cx Φ d nm x e1)(h2:ed cx Φ d nm y e2)(h3:ed cx Φ d nm z e3):ed cx Φ d nm (.ife x y z) (.IfExp e1 e2 e3 pos):=by
 refine⟨fun ρ σ K A env h₀ ov as s Q E hx H t=>?_,fun ρ σ K A env h₀ ov as s Q E hx H t=>?_⟩
 ·refine wpAny_IfExp (h1.2 ρ σ _ A env h₀ ov as s _ E hx H fun b σ' as' s' k f st=>?_)
  cases b with
  | true=>exact h2.1 ρ σ' K A env h₀ ov as' s' Q E k (H.next f st) (t.fw f)
  | false=>exact h3.1 ρ σ' K A env h₀ ov as' s' Q E k (H.next f st) (t.fw f)
 ·refine isTrue_IfExp (h1.2 ρ σ _ A env h₀ ov as s _ E hx H fun b σ' as' s' k f st=>?_)
  cases b with
  | true=>exact h2.2 ρ σ' K A env h₀ ov as' s' Q E k (H.next f st) fun b σ'' as'' s'' k' f' st'=>t b σ'' as'' s'' k' (f.trans f') st'
  | false=>exact h3.2 ρ σ' K A env h₀ ov as' s' Q E k (H.next f st) fun b σ'' as'' s'' k' f' st'=>t b σ'' as'' s'' k' (f.trans f') st'
noncomputable def ga (o:Bool):BoolOp:=if o then .Or else .And
def oy (cx:Cx)(Φ:b9) (d:Nat)(nm:List (Str×NameKind))(o:Bool)(x:T)(es:List Expr):Prop:=
 ∀ ρ σ (K:Bool→ak→Prop) A env h₀ ov as s E,blP cx.P.tab Φ o x ρ σ K→Here cx d nm ρ σ A env h₀ ov as s→
  (∀ (Q:VS) pos,(∀ b σ' as' s',K b σ'→Fw as as' s s'→St cx h₀ ov as' σ' s'.heap→Q (.bool b) s')→wpAny (model cx.prog cx.w) A (boolOp pos (ga o) (evalEach es env)) Q E s)∧
  (∀ (Q:Bool→Shared→Prop),(∀ b σ' as' s',K b σ'→Fw as as' s s'→St cx h₀ ov as' σ' s'.heap→Q b s')→wpAny (model cx.prog cx.w) A (allTrue (ga o) es env) Q E s)
theorem eq_271 {o:Bool}{e:Expr}{r:List Expr}{Q:Bool→Shared→Prop} {E}(h:wpAny (model cx.prog cx.w) A (PySem.isTrue e env (eval e env)) (fun b s₁=>if b=o then Q o s₁ else wpAny (model cx.prog cx.w) A (allTrue (ga o) r env) Q E s₁) E s) :
  wpAny (model cx.prog cx.w) A (allTrue (ga o) (e::r) env) Q E s:=by
 cases o with
 | true=>exact wpAny_allTrue_Or_cons (wpAny_mono h (fun b s₁ q=>by cases b<;>simpa [ga] using q) fun J J x=>x)
 | false=>exact wpAny_allTrue_And_cons (wpAny_mono h (fun b s₁ q=>by cases b<;>simpa [ga] using q) fun J J x=>x)
theorem eq_496 {o:Bool}{Q:Bool→Shared→Prop} {E}(h:Q (!o) s):wpAny (model cx.prog cx.w) A (allTrue (ga o) [] env) Q E s:=by
 cases o with
 | true=>exact wpAny_allTrue_Or_nil h
 | false=>exact wpAny_allTrue_And_nil h
theorem eq_497 {o:Bool}{x y:Sem Value}{r:List (Sem Value)}{pos:Pos}{Q:VS} {E}(h:wpAny (model cx.prog cx.w) A x (fun v s₁=>wpAny (model cx.prog cx.w) A (truthy v) (fun b s₂=>if b=o then Q v s₂ else wpAny (model cx.prog cx.w) A (boolOp pos (ga o) (y::r)) Q E s₂) E s₁) E s) :
  wpAny (model cx.prog cx.w) A (boolOp pos (ga o) (x::y::r)) Q E s:=by
 unfold boolOp
 refine wpAny_bind (wpAny_mono h (fun v s₁ q=>wpAny_bind (wpAny_standAt (wpAny_bind (wpAny_holding (wpAny_mono q (fun b s₂ q=>?_) fun J J x=>x))))) fun J J x=>x)
 cases o<;>cases b<;>first | exact wpAny_pure (by simpa using q) | simpa [ga] using q
theorem eq_498 {o:Bool}{x:T}{e:Expr}(h:ed cx Φ d nm x e):oy cx Φ d nm o (.cons x .nil) [e]:=fun ρ σ K A env h₀ ov as s E hx H=>by
 refine⟨fun Q pos t=>?_,fun Q t=>?_⟩
 ·show wpAny _ A (eval e env) Q E s
  refine h.1 ρ σ _ A env h₀ ov as s Q E hx H fun pv σ' v as' s' k f st r=>?_
  obtain⟨b,rfl,k⟩:=eq_85 k
  obtain rfl:v=.bool b:=r
  exact t _ _ _ _ k f st
 ·refine eq_271 (h.2 ρ σ _ A env h₀ ov as s _ E hx H fun b σ' as' s' k f st=>?_)
  have q:=t _ _ _ _ k f st
  by_cases hb:b=o
  ·rw[if_pos hb,← hb];exact q
  ·rw[if_neg hb];exact eq_496 (by cases b<;>cases o<;>first | exact q | exact(hb rfl).elim)
theorem eq_499 {o:Bool}{x y z:T}{e e':Expr}{r:List Expr}(h:ed cx Φ d nm x e)(h':oy cx Φ d nm o (.cons y z) (e'::r)):oy cx Φ d nm o (.cons x (.cons y z)) (e::e'::r):=fun ρ σ K A env h₀ ov as s E hx H=>by
 refine⟨fun Q pos t=>?_,fun Q t=>?_⟩
 ·refine eq_497 (h.1 ρ σ _ A env h₀ ov as s _ E hx H fun pv σ' v as' s' k f st rv=>?_)
  obtain⟨b,e1,k2⟩:=eq_85 k
  subst e1
  obtain rfl:v=.bool b:=rv
  refine wpAny_truthy_bool ?_
  by_cases hb:b=o
  ·subst hb;rw[if_pos rfl];simp only[beq_self_eq_true] at k2;exact t _ _ _ _ k2 f st
  ·rw[if_neg hb]
   have:(b==o)=false:=by simpa using hb
   rw[this] at k2
   exact(h' ρ σ' K A env h₀ ov as' s' E k2 (H.next f st)).1 Q pos fun b σ'' as'' s'' k' f' st'=>t b σ'' as'' s'' k' (f.trans f') st'
 ·refine eq_271 (h.2 ρ σ _ A env h₀ ov as s _ E hx H fun b σ' as' s' k f st=>?_)
  by_cases hb:b=o
  ·subst hb;rw[if_pos rfl];simp only[beq_self_eq_true] at k;exact t _ _ _ _ k f st
  ·rw[if_neg hb]
   have:(b==o)=false:=by simpa using hb
   rw[this] at k
   exact(h' ρ σ' K A env h₀ ov as' s' E k (H.next f st)).2 Q fun b σ'' as'' s'' k' f' st'=>t b σ'' as'' s'' k' (f.trans f') st'
theorem eq_500 {o:Bool}{x:T}{es:List Expr}{pos:Pos}(h:oy cx Φ d nm o x es):ed cx Φ d nm (.bl o x) (.BoolOp (ga o) es pos):=by
 refine⟨fun ρ σ K A env h₀ ov as s Q E hx H t=>?_,fun ρ σ K A env h₀ ov as s Q E hx H t=>?_⟩
 ·show wpAny _ A (boolOp pos (ga o) (evalEach es env)) Q E s
  exact(h ρ σ _ A env h₀ ov as s E hx H).1 Q pos fun b σ' as' s' k f st=>t _ _ _ _ _ k f st rfl
 ·exact wpAny_isTrue_BoolOp ((h ρ σ _ A env h₀ ov as s E hx H).2 Q t)
end
end Mine
end
section
set_option genSizeOf false
set_option genCtorIdx false
set_option genInjectivity false
namespace Mine
open PySem PySem.W PySem.Calls PyProof.Rows PySem.Spec
structure AttrOk (K:Frag)(C:Addr)(n:Str):Prop where
 get:plainGet K C n=true
 dict:hasDictIn K C=true
 find:∃ a,findIn K (.ref C) n=some a∧noGet K a=true
 set:findIn K (.ref C) "__setattr__" = some (some (.builtin "object.__setattr__"))
 over:plainOver K C=true
 taker:takerIn K C n=some none
structure MethOk (K:Frag)(C f:Addr)(n:Str):Prop where
 get:plainGet K C n=true
 find:findIn K (.ref C) n=some (some (.ref f))
 isF:typeIn K (.ref f)=some (.type "function")
 keep:keepIn K (.ref f)=true
structure TabOk (cx:Cx):Prop where
 attr:∀ c x,cx.P.tab.attr c x=true→bc x=true∧AttrOk cx.K (cx.ca c) (aJ x)
 meth:∀ c x f,cx.P.tab.meth c x=some f→bc x=true∧MethOk cx.K (cx.ca c) (cx.fa f) (aJ x)
section
variable {cx:Cx}{Φ:b9}{d:Nat}{nm:List (Str×NameKind)}{ρ:aN}{σ:ak}{A:Around}{env:Env}{h₀:Heap}{ov:List Addr}{as as' as'':List (Addr×Addr)}{s s' s'':Shared}
theorem eq_272 {α:Type}{o:Option Cell}{f:List PV→Option α}{x:α}(e:(match o with
  | some (.list xs)=>f xs
  | _=>none)=some x):∃ xs,o=some (.list xs)∧f xs=some x:=by
 cases o with
 | none=>cases e
 | some c=>cases c with
  | list xs=>exact⟨xs,rfl,e⟩
  | _=>cases e
theorem eq_3 (t:St cx h₀ ov as σ s.heap){pv:PV}{v:Value}{xs:List PV}(r:az cx s.heap (Fz ov as) as pv v)(e:bw σ pv=some xs) :
  ∃ a vs,v=.ref a∧VReps cx s.heap (Fz ov as) as xs vs∧((dr s.heap a (List.toArray vs)∧((∃ q,pv=.p (.tup q))∨∃ q,pv=.mix q))∨(s.heap.PlainList a (List.toArray vs)∧((∃ q,pv=.p (.lst q))∨∃ i,pv=.ref i))):=by
 cases pv with
 | p d=>
  cases d with
  | tup q=>cases e;obtain⟨a,vs,rfl,_,ht,q⟩:=r;exact⟨a,vs,rfl,sa q,.inl ⟨ht,.inl ⟨_,rfl⟩⟩⟩
  | lst q=>cases e;obtain⟨a,vs,rfl,_,ht,q⟩:=r;exact⟨a,vs,rfl,sa q,.inr ⟨ht,.inl ⟨_,rfl⟩⟩⟩
  | _=>cases e
 | mix q=>cases e;obtain⟨a,vs,rfl,_,ht,q⟩:=r;exact⟨a,vs,rfl,q,.inl ⟨ht,.inr ⟨_,rfl⟩⟩⟩
 | ref i=>
  obtain⟨ys,hx,e⟩:=eq_272 e
  cases e
  obtain⟨l,hl,rfl⟩:=r
  obtain⟨_,vs,il,q⟩:=t.cellOf hl hx
  exact⟨l.1,vs,rfl,q,.inr ⟨il,.inr ⟨_,rfl⟩⟩⟩
 | _=>cases e
theorem eq_4 {h:Heap}{F:AP}{as:List (Addr×Addr)}{xs:List PV}:∀ {vs:List Value}{i:Nat}{v:PV},VReps cx h F as xs vs→xs[i]?=some v→∃ u,vs[i]?=some u∧az cx h F as v u:=by
 induction xs with
 | nil=>intro vs i v _ e;cases e
 | cons x xs ih=>
  intro vs i v r e
  obtain⟨u,r,rfl,a,b⟩:=r
  cases i with
  | zero=>cases e;exact⟨u,rfl,a⟩
  | succ i=>exact ih (vs:=r) (i:=i) b e
theorem so {α:Type}{b:Bool}{o:Option α}{v:α}(h:(bif b then o else none)=some v):b=true∧o=some v:=by
 cases b with
 | true=>exact⟨rfl,h⟩
 | false=>cases h
theorem eq_273 {i:Int}{len n:Nat}(h:(if i<0 then i+len else i)=(n:Int))(hn:n<len):seqIndex? i len=some n:=by
 unfold seqIndex?
 dsimp only
 rw[h,if_pos (aI (decide_eq_true (Int.natCast_nonneg n)) (decide_eq_true (Int.ofNat_lt.mpr hn)))]
 rfl
theorem eq_501 {xs:List PV}{k:Int}{v:PV}(e:qt xs k=some v):∃ j,seqIndex? k xs.length=some j∧xs[j]?=some v∧(k<0→-(xs.length:Int)≤k∧j=(k+xs.length).toNat)∧(0≤k→j=k.toNat)∧-2 ^ 63≤k∧k<2 ^ 63:=by
 cases k with
 | ofNat n=>
  obtain⟨hb,e⟩:=so e
  have h0:¬ Int.ofNat n<0:=Int.not_lt.mpr (Int.natCast_nonneg n)
  exact⟨n,eq_273 (if_neg h0) (List.getElem?_eq_some_iff.mp e).1,e,fun h=>absurd h h0,fun J=>rfl,Int.le_trans (by decide) (Int.natCast_nonneg n),Int.lt_of_le_of_lt (Int.ofNat_le.mpr (Nat.le_of_ble_eq_true hb)) (by decide)⟩
 | negSucc n=>
  obtain⟨hb,e⟩:=so e
  have hn:n+1≤xs.length:=Nat.le_of_ble_eq_true (aT hb).2
  have hm:=Nat.le_of_ble_eq_true (aT hb).1
  have h0:=Int.negSucc_lt_zero n
  have e1:Int.negSucc n+(xs.length:Int)=((xs.length - (n+1):Nat):Int):=by
   rw[Int.natCast_sub hn,Int.add_comm,Int.sub_eq_add_neg]
   rfl
  exact⟨xs.length - (n+1),eq_273 ((if_pos h0).trans e1) (Nat.sub_lt (Nat.lt_of_lt_of_le (Nat.succ_pos n) hn) (Nat.succ_pos n)),e,fun J=>⟨Int.neg_le_neg (Int.ofNat_le.mpr hn),(congrArg Int.toNat e1).symm⟩,fun h=>absurd h (Int.not_le.mpr h0),Int.le_trans (by decide) (Int.neg_le_neg (Int.ofNat_le.mpr (Nat.succ_le_succ hm))),Int.lt_trans h0 (by decide)⟩
set_option tactic.hygienic true in
theorem eq_144 {eC:Expr}{o i:Value}(hs:(∀ a b p,eC≠.Slice a b none p)):subscripted eC false o i=operate [o,i] (getItem o i):=by
 cases eC<;>first | rfl | skip
 rename_i lo up st p
 cases st with
 | none=>exact(hs lo up p rfl).elim
 | some s=>rfl
noncomputable def fG:Expr→Bool
 | .Slice ..=>false
 | _=>true
theorem eq_145 {e:Expr}(h:fG e=true):∀ a b p,e≠.Slice a b none p:=fun a b p q=>by subst q;cases h
theorem eq_502 (H:Here cx d nm ρ σ A env h₀ ov as s){pa pi v:PV}{a i:Value}{value eC:Expr}(hs:fG eC=true)(ra:az cx s.heap (Fz ov as) as pa a)(ri:az cx s.heap (Fz ov as) as pi i)(e:fF σ pa pi=some v) {Q E}
  (q:∀ u n,az cx s.heap (Fz ov as) as v u→Q u {s with toks:=n}):wpAny (model cx.prog cx.w) A (subscriptTail value eC a i) Q E s:=by
 have ⟨i,hi⟩:∃ i,pi=.p i:=by
  cases pi with
  | p i=>exact⟨i,rfl⟩
  | _=>cases e
 subst hi
 cases i with
 | int k=>
  obtain⟨tk,rfl⟩:=ri
  obtain⟨xs,hq,e⟩:=Option.bind_eq_some_iff.mp e
  obtain⟨c,vs,rfl,rs,h⟩:=eq_3 H.st ra hq
  obtain⟨j,hj,hx,hneg,hpos,lo,hi⟩:=eq_501 e
  obtain⟨u,hu,ru⟩:=eq_4 rs hx
  have hlen:vs.length=xs.length:=rs.len
  rcases h with ⟨ht,_⟩ | ⟨hl,_⟩
  ·exact tail_any ht.isTup.typeIs PySem.F.slot_tuple_getitem.lookup (getItem_tuple ht.isTup lo hi (by rw[size_toArray,hlen];exact hj) (by simpa using hu) (q u s.toks ru)) (eq_144 (eq_145 hs))
  ·refine tail_any hl.isList.typeIs slot_list_getitem.lookup ?_ (eq_144 (eq_145 hs))
   by_cases h0:k<0
   ·obtain⟨h1,rfl⟩:=hneg h0
    exact wpAny_getItem_list_neg hl.isList h0 (by rw[size_toArray,hlen];exact h1) lo (by rw[size_toArray,hlen];simpa using hu) (q u s.toks ru)
   ·obtain rfl:=hpos (by lia)
    exact wpAny_getItem_list hl.isList (by lia) hi (by simpa using hu) (q u s.toks ru)
 | str k=>
  obtain⟨dd,hq,e⟩:=Option.bind_eq_some_iff.mp e
  obtain⟨tk,c,f,rfl,rfl,hd,fr,hsome,sk⟩:=eq_141 (ks:=dd.1) (vs:=dd.2) H.st ri ra hq
  obtain⟨u,hu,ru⟩:=eq_46 sk fr e
  exact tail_any hd.map.typeIs slot_dict_getitem.lookup (wpAny_getItem_of (strKind_is _ _ _ _) hd.map hu (q u _ ru)) (eq_144 (eq_145 hs))
 | _=>cases e
theorem eq_503 {x y:T}{e1 e2:Expr}{pos:Pos}(hs:fG e2=true)(h1:SE cx Φ d nm x e1)(h2:SE cx Φ d nm y e2):SE cx Φ d nm (.sub x y) (.Subscript e1 e2 pos):=fun ρ σ K A env h₀ ov as s Q E hx H t=>by
 refine Subscript_ (h1 ρ σ _ A env h₀ ov as s _ E hx H fun pa σ1 a as1 s1 k1 f1 st1 ra=>?_)
 refine h2 ρ σ1 _ A env h₀ ov as1 s1 _ E k1 (H.next f1 st1) fun pb σ2 b as2 s2 k2 f2 st2 rb=>?_
 ·obtain⟨v,e,k2⟩:=rf (o:=fF σ2 pa pb) (k:=fun v=>K v σ2) k2
  exact eq_502 (H.next (f1.trans f2) st2) hs (f2.vrep ra) rb e fun u n ru=>t _ σ2 _ as2 _ k2 ((f1.trans f2).trans (Fw.toks _ _ n)) st2 ru
end
end Mine
end
section
namespace Mine
open PySem PySem.W PySem.Calls PyProof.Rows PySem.Spec
section
variable {cx:Cx}{Φ:b9}{d:Nat}{nm:List (Str×NameKind)}{ρ:aN}{σ:ak}{A:Around}{env:Env}{h₀:Heap}{ov:List Addr}{as as' as'':List (Addr×Addr)}{s s' s'':Shared}
theorem St.set (t:St cx h₀ ov as σ s.heap){h':Heap}{i:Nat}{l:Addr×Addr}{c:Cell}(hl:as[i]?=some l)(kp:∀ b x,b≠l.1→b≠l.2→s.heap.get? b=some x→h'.get? b=some x)
  (lv:∀ b x,s.heap.get? b=some x→∃ y,h'.get? b=some y)(hc:Mv s.heap h' (Fz ov as) (Fz ov as)→f7 cx h' (Fz ov as) as l c) (tk:Nat) :
  St cx h₀ ov as (σ.set i c) h'∧Fw as as s {s with heap:=h',toks:=tk}:=by
 have lm:l∈as:=List.mem_iff_getElem?.mpr ⟨i,hl⟩
 have ca:=t.asOld l lm
 have mv:Mv s.heap h' (Fz ov as) (Fz ov as):=fun b o f e=>⟨f,kp b o (f.2 l lm).1 (f.2 l lm).2 e⟩
 refine⟨⟨fun b x e=>kp _ _ (rh e ca.1) (rh e ca.2) (t.keep b x e),t.ovOld,t.asOld,fun b hb=>let ⟨x,e⟩:=t.ovIn b hb;lv _ _ e,t.ovAs,t.apart,by simp[t.len],fun j l' c' h1 h2=>?_⟩,
  ⟨⟨[],by simp,fun J h=>nomatch h⟩,fun b x cv e=>kp _ _ (cv l lm).1 (cv l lm).2 e,lv,h',tk,rfl⟩⟩
 by_cases hij:i=j
 ·subst hij
  rw[hl] at h1
  cases h1
  rw[List.getElem?_set_self (by rw[← t.len];exact(List.getElem?_eq_some_iff.mp hl).1)] at h2
  cases h2
  exact hc mv
 ·rw[List.getElem?_set_ne hij] at h2
  have ap:l.1≠l'.1∧l.1≠l'.2∧l.2≠l'.1∧l.2≠l'.2:=by
   obtain⟨hi,ei⟩:=List.getElem?_eq_some_iff.mp hl
   obtain⟨hj,ej⟩:=List.getElem?_eq_some_iff.mp h1
   have P:=List.pairwise_iff_getElem.mp t.apart
   rcases Nat.lt_or_gt_of_ne hij with q | q
   ·have:=P i j hi hj q;rwa [ei,ej] at this
   ·have:=P j i hj hi q
    rw[ei,ej] at this
    exact⟨this.1.symm,this.2.2.1.symm,this.2.1.symm,this.2.2.2.symm⟩
  exact(t.cells j l' c' h1 h2).mv mv (cB.refl _) (fun J e=>kp _ _ ap.1.symm ap.2.2.1.symm e) (fun J e=>kp _ _ ap.2.1.symm ap.2.2.2.symm e)
theorem eq_146 {α:Type}{o:Option Cell}{f:Nat→List Nat→List PV→Option α}{x:α}(e:(match o with
  | some (.inst c ns vs)=>f c ns vs
  | _=>none)=some x):∃ c ns vs,o=some (.inst c ns vs)∧f c ns vs=some x:=by
 cases o with
 | none=>cases e
 | some c=>cases c with
  | inst c ns vs=>exact⟨c,ns,vs,rfl,e⟩
  | _=>cases e
theorem eq_147 {h:Heap}{x dx C:Addr}{es:List DictEntry}{k:Nat}(h1:h.get? x=some (instObj C dx))(h2:h.get? dx=some (PySem.W.dictOf es k)):PySem.W.InstAt h x (instObj C dx) C (some (PySem.W.dictOf es k)):=⟨h1,rfl,rfl,h2⟩
theorem eq_504 (T:TabOk cx)(X:cx.K.In s.heap){c x:Nat}{a dx:Addr}{f:Str→Option Value}{n:Nat}(ha:cx.P.tab.attr c x=true)(h1:s.heap.get? a=some (instObj (cx.ca c) dx))(h2:jd s.heap dx n f){u:Value}(e:f (aJ x)=some u)(hu:handedIn u=true)
  {Q E}(q:Q u {s with toks:=s.toks+1}):wpAny (model cx.prog cx.w) A (getAttr (.ref a) (aJ x) true) Q E s:=by
 obtain⟨sv,G⟩:=T.attr c x ha
 obtain⟨es,k,hd,_,_,hg⟩:=h2
 obtain⟨at_,hf,hn⟩:=G.find
 exact get_value X (eq_147 h1 hd) (plainGet_of G.get).1 (findObj_own G.dict hf hn (by rw[lookIn_dict,hg,e])) hu q
theorem eq_505 {F:AP}{h:Heap}{v:PV}{u:Value}(r:az cx h F as v u):handedIn u=true:=(eq_267 r).2.2
theorem eq_274 (t:St cx h₀ ov as σ s.heap){pv:PV}{v:Value}{c:Nat}{ns:List Nat}(r:az cx s.heap (Fz ov as) as pv v)(e:jb σ pv=some (c,ns)) :
  ∃ vs a dx f,v=.ref a∧s.heap.get? a=some (instObj (cx.ca c) dx)∧jd s.heap dx ns.length f∧FReps cx s.heap (Fz ov as) as ns vs f∧
   ∀ at_ x,hY at_ σ x pv=bif at_ c x then cJ x ns vs else none:=by
 cases pv with
 | inst c' ns' vs'=>cases e;obtain⟨a,dx,f,e,_,_,h1,h2,q⟩:=r;exact⟨vs',a,dx,f,e,h1,h2,q,fun J J=>rfl⟩
 | ref i=>
  obtain⟨l,hl,rfl⟩:=r
  obtain⟨c',ns',vs',hx,e⟩:=eq_146 (f:=fun c ns J=>some (c,ns)) e
  cases e
  obtain⟨_,h1,f,h2,q⟩:=t.cellOf hl hx
  exact⟨vs',l.1,l.2,f,rfl,h1,h2,q,fun at_ x=>by
   show (match σ[i]? with
    | some (.inst c ns vs)=>bif at_ c x then cJ x ns vs else none
    | _=>none)=_
   rw[hx]⟩
 | _=>cases e
theorem eq_275 {b:Bool}{o:Option PV}{v:PV}(h:(bif b then o else none)=some v):b=true:=by
 cases b with
 | true=>rfl
 | false=>cases h
theorem eq_506 {at_:Nat→Nat→Bool}{x:Nat}{pv v:PV}(e:hY at_ σ x pv=some v):∃ c ns,jb σ pv=some (c,ns)∧at_ c x=true:=by
 cases pv with
 | inst c' ns' vs'=>exact⟨c',ns',rfl,eq_275 e⟩
 | ref i=>
  obtain⟨c',ns',vs',hx,e⟩:=eq_146 (f:=fun c ns vs=>bif at_ c x then cJ x ns vs else none) e
  refine⟨c',ns',?_,eq_275 e⟩
  show (match σ[i]? with
   | some (.inst c ns _)=>some (c,ns)
   | _=>none)=_
  rw[hx]
 | _=>cases e
theorem eq_507 (T:TabOk cx)(X:cx.K.In s.heap)(t:St cx h₀ ov as σ s.heap){x:Nat}{pv v:PV}{o:Value}(r:az cx s.heap (Fz ov as) as pv o)(e:hY cx.P.tab.attr σ x pv=some v)
  {Q E}(q:∀ u,az cx s.heap (Fz ov as) as v u→Q u {s with toks:=s.toks+1}):wpAny (model cx.prog cx.w) A (getAttr o (aJ x) true) Q E s:=by
 obtain⟨c,ns,hc,ha⟩:=eq_506 e
 obtain⟨vs,a,dx,f,rfl,h1,h2,fr,hg⟩:=eq_274 t r hc
 rw[hg,ha] at e
 obtain⟨sv,_⟩:=T.attr c x ha
 obtain⟨u,hu,ru⟩:=eq_46 sv fr e
 exact eq_504 T X ha h1 h2 hu (eq_505 ru) (q u ru)
theorem eq_508 (ok:TabOk cx){y:T}{x:Nat}{n:Str}{e:Expr}{pos:Pos}(hn:aJ x=n)(h:SE cx Φ d nm y e)
  (he:∀ env,eval (e.Attribute n pos) env=(do
     let o ← eval e env
     standAt pos.atName
     let r ← holding [o] (getAttr o n true)
     letTemporaryGo e o r
     pure r)):SE cx Φ d nm (.att y x) (.Attribute e n pos):=fun ρ σ K A env h₀ ov as s Q E hx H t=>by
 subst hn
 refine Attribute_any_ (h ρ σ _ A env h₀ ov as s _ E hx H fun pa σ1 a as1 s1 k1 f1 st1 ra=>?_) (he env)
 obtain⟨v,e,k1⟩:=rf (o:=hY cx.P.tab.attr σ1 x pa) (k:=fun v=>K v σ1) k1
 exact eq_507 ok (H.gd.X.keeps st1.keep) st1 ra e fun u ru=>t _ σ1 _ as1 _ k1 (f1.trans (Fw.toks _ _ _)) st1 ru
end
theorem eq_509 (l:List Nat):l.length≤cU l:=by
 induction l with
 | nil=>exact Nat.le_refl _
 | cons c cs ih=>show cs.length+1≤(c+1)+2097152*cU cs;exact re ih (by simp +arith only)
theorem eq_510 {c n:Nat}(h:c<0x110000):((c+1)+2097152*n) % 2097152 - 1=c:=by
 rw[Nat.add_mul_mod_self_left,Nat.mod_eq_of_lt (by exact u5 h rfl)];rfl
theorem eq_511 {c n:Nat}(h:c<0x110000):((c+1)+2097152*n) / 2097152=n:=by
 rw[Nat.add_mul_div_left _ _ (by decide),Nat.div_eq_of_lt (by exact u5 h rfl),Nat.zero_add]
theorem eq_512 (l:List Nat):∀ f:Nat,l.length≤f→(l.all (·<0x110000))=true→nx f (cU l)=l:=by
 induction l with
 | nil=>intro f _ _;cases f<;>rfl
 | cons c cs ih=>
  intro f h a
  cases f with
  | zero=>exact absurd h (Nat.not_succ_le_zero _)
  | succ f=>
   have a:=Bool.and_eq_true_iff.mp a
   have hc:=of_decide_eq_true a.1
   have e:(cU (c::cs)==0)=false:=beq_eq_false_iff_ne.mpr fun q=>by rw[show cU (c::cs)=(c+2097152*cU cs)+1 from Nat.add_right_comm _ _ _] at q;cases q
   show (bif cU (c::cs)==0 then [] else (((c+1)+2097152*cU cs) % 2097152 - 1)::nx f (((c+1)+2097152*cU cs) / 2097152))=c::cs
   rw[e,eq_510 hc,eq_511 hc,ih f (Nat.le_of_succ_le_succ h) a.2]
   rfl
theorem tI {l:List Nat}(a:(l.all (·<0x110000))=true):bx (cU l)=l:=eq_512 l _ (eq_509 l) a
theorem eq_87 {l:List Nat}(a:(l.all (·<0x110000))=true):bc (cU l)=true∧aJ (cU l)=⟨l.toArray⟩:=by
 have e:=tI a
 unfold bc aJ
 rw[e]
 simp only[beq_self_eq_true,Bool.true_and,and_true]
 exact a
theorem eq_50 {n:Nat}(h:bc n=true):((bx n).all (·<0x110000))=true:=(Bool.and_eq_true_iff.mp h).2
theorem eq_276 (m n:Nat):aJ m++aJ n=⟨(bx m++bx n).toArray⟩:=by
 show Str.append _ _=_
 unfold Str.append aJ
 simp
theorem eq_88 (n:Nat):(aJ n).length=(bx n).length:=by unfold aJ Str.length;simp
theorem eq_277 {x y:Nat}(hx:bc x=true)(hy:bc y=true):bc (dg x y)=true∧aJ (dg x y)=aJ x++aJ y:=by
 have a:((bx x++bx y).all (·<0x110000))=true:=by rw[List.all_append,eq_50 hx,eq_50 hy];rfl
 exact⟨(eq_87 a).1,by rw[eq_276];exact(eq_87 a).2⟩
theorem DReps.app {h:Heap}{F:AP}{ys:List D}{ws:List Value}(r2:DReps h F ys ws){xs:List D}:∀ {vs:List Value},DReps h F xs vs→DReps h F (xs++ys) (vs++ws):=by
 induction xs with
 | nil=>intro vs e;cases e;exact r2
 | cons x xs ih=>intro vs e;obtain⟨v,r,rfl,a,b⟩:=e;exact⟨v,_,rfl,a,ih b⟩
theorem VReps.app {cx:Cx}{h:Heap}{F:AP}{as:List (Addr×Addr)}{ys:List PV}{ws:List Value}(r2:VReps cx h F as ys ws){xs:List PV}:∀ {vs:List Value},VReps cx h F as xs vs→VReps cx h F as (xs++ys) (vs++ws):=by
 induction xs with
 | nil=>intro vs e;cases e;exact r2
 | cons x xs ih=>intro vs e;obtain⟨v,r,rfl,a,b⟩:=e;exact⟨v,_,rfl,a,ih b⟩
theorem eq_278 {i:Int}(h:dD i=true):i.natAbs≤4611686018427387904:=Nat.le_of_ble_eq_true h
section
variable {cx:Cx}{Φ:b9}{d:Nat}{nm:List (Str×NameKind)}{ρ:aN}{σ:ak}{A:Around}{env:Env}{h₀:Heap}{ov:List Addr}{as as' as'':List (Addr×Addr)}{s s' s'':Shared}
theorem eq_513 {t b:Addr}{vs ws:List Value} {Q E}(ht:dr s.heap t vs.toArray)(hb:dr s.heap b ws.toArray)(hz:vs.length+ws.length≤100000)
  (h0:ws.length=0∨vs.length=0→∀ a,(a=t∧ws=[])∨(a=b∧vs=[])→Q (.ref a) s)
  (h2:Q (.ref s.heap.objs.size) {s with heap:=s.heap.push {cls:=.type "tuple",data:=.seq (vs++ws).toArray}}):wpAny (model cx.prog cx.w) A (binaryOp .Add (.ref t) (.ref b)) Q E s:=by
 obtain⟨n,ho⟩:=ht
 obtain⟨n2,ho2⟩:=hb
 have e:vs.toArray++ws.toArray=(vs++ws).toArray:=by simp
 by_cases hv:vs=[]
 ·exact concat_meets ⟨_,ho,rfl⟩ ⟨_,ho2,rfl⟩ noFill_tuple_add seq_tuple_add PySem.F.slot_tuple_add PySem.F.entry_tuple_add (PySem.F.args_tuple_add_2 _ _)
   (tuple_addW0 t b vs.toArray ws.toArray n n2 none none #[] #[] (by simp[hv])) ⟨ho,ho2,h0 (.inr (by simp[hv])) b (.inr ⟨rfl,hv⟩)⟩
 ·by_cases hw:ws=[]
  ·exact concat_meets ⟨_,ho,rfl⟩ ⟨_,ho2,rfl⟩ noFill_tuple_add seq_tuple_add PySem.F.slot_tuple_add PySem.F.entry_tuple_add (PySem.F.args_tuple_add_2 _ _)
    (tuple_addW1 t b vs.toArray ws.toArray n n2 none none #[] #[] (by simpa using hv) (by simp[hw])) ⟨ho,ho2,h0 (.inl (by simp[hw])) t (.inl ⟨rfl,hw⟩)⟩
  ·refine concat_meets ⟨_,ho,rfl⟩ ⟨_,ho2,rfl⟩ noFill_tuple_add seq_tuple_add PySem.F.slot_tuple_add PySem.F.entry_tuple_add (PySem.F.args_tuple_add_2 _ _)
    (tuple_addW2 t b vs.toArray ws.toArray n n2 none none #[] #[] (by simpa using hv) (by simpa using hw) (by rw[size_toArray,size_toArray,sizeLine_eq];exact u1 hz rfl)) ⟨ho,ho2,?_⟩
   rw[e]
   exact h2
theorem eq_514 {t b:Addr}{vs ws:List Value} {Q E}(ht:s.heap.PlainList t vs.toArray)(hb:s.heap.PlainList b ws.toArray)(hz:vs.length+ws.length≤100000)
  (h2:Q (.ref s.heap.objs.size) {s with heap:=s.heap.push {cls:=.type "list",data:=.seq (vs++ws).toArray}}):wpAny (model cx.prog cx.w) A (binaryOp .Add (.ref t) (.ref b)) Q E s:=by
 obtain⟨n,ho⟩:=ht
 obtain⟨n2,ho2⟩:=hb
 have e:vs.toArray++ws.toArray=(vs++ws).toArray:=by simp
 refine concat_meets ⟨_,ho,rfl⟩ ⟨_,ho2,rfl⟩ noFill_list_add seq_list_add PySem.F.slot_list_add PySem.F.entry_list_add (PySem.F.args_list_add_2 _ _)
  (list_addW t b vs.toArray ws.toArray n n2 none none #[] #[] (by rw[size_toArray,size_toArray,sizeLine_eq];exact u1 hz rfl)) ⟨ho,ho2,?_⟩
 rw[e]
 exact h2
theorem eq_515 {vs:List Value}(hz:vs.length≤1000):vs.toArray.size*Int.toNat 2≤2000:=by
 rw[size_toArray];show vs.length*2≤2000;exact re (Nat.mul_le_mul_left 2 hz) (by simp +arith only)
theorem tl {vs:List Value}(hz:vs.length≤1000):¬Builtin.List.listTooLong (vs.toArray.size*Int.toNat 2)=true:=by
 have q:vs.toArray.size*Int.toNat 2≤2000:=by
  rw[size_toArray];show vs.length*2≤2000;exact re (Nat.mul_le_mul_left 2 hz) (by simp +arith only)
 generalize vs.toArray.size*Int.toNat 2=z at q
 simp[Builtin.List.listTooLong,sizeLine];exact u1 q rfl
theorem eq_516 {l:Addr}{vs:List Value}{u:Tok} {Q E}(hl:s.heap.PlainList l vs.toArray)(hz:vs.length≤1000)
  (h2:Q (.ref s.heap.objs.size) {s with heap:=s.heap.push {cls:=.type "list",data:=.seq (vs++vs).toArray}}):wpAny (model cx.prog cx.w) A (binaryOp .Mult (.ref l) (.int 2 u)) Q E s:=by
 obtain⟨k,hl⟩:=hl
 have e:List.foldl (fun x1 x2=>x1++x2) #[] (List.replicate (if vs.toArray.isEmpty=true then 0 else (2:Int).toNat) vs.toArray)=(vs++vs).toArray:=by
  cases vs with
  | nil=>rfl
  | cons v vs=>simp[List.replicate]
 refine wpAny_binaryOp_repeat_ref (T:="list") (U:="int") (by decide) ⟨_,hl,rfl⟩ (fun s'=>typeIs_int s' 2 u) noFill_list_mul F.fills_int_mul F.slot_int_rmul repeat_list F.slot_int_index.lookup
  (call_meets F.slot_int_rmul (typeIs_int s 2 u) F.entry_int_rmul (F.args_int_rmul_2 _ _) (int___rmul___int_list 2 u l vs.toArray k)
   ⟨hl,rfl,⟨_,hl,rfl⟩,call_meets F.slot_list_mul ⟨_,hl,rfl⟩ F.entry_list_mul (F.args_list_mul_2 _ _)
    (AutoListH.list___mul___list_int_3 l vs.toArray k 2 u (by simp[Builtin.List.listFitsIndex]) (by have:=eq_515 hz;generalize vs.toArray.size*Int.toNat 2=z at this ⊢;lia) (tl hz))
    ⟨hl,?_⟩⟩)
 rw[e]
 exact h2
theorem eq_51 {pv:PV}{v:Value}{xs:List PV}(t:St cx h₀ ov as σ s.heap)(r:az cx s.heap (Fz ov as) as pv v)(e:bw σ pv=some xs)(l:lP pv=true) :
  ∃ a vs,v=.ref a∧VReps cx s.heap (Fz ov as) as xs vs∧s.heap.PlainList a (List.toArray vs):=by
 obtain⟨a,vs,rfl,rs,h⟩:=eq_3 t r e
 rcases h with ⟨_,⟨q,rfl⟩ | ⟨q,rfl⟩⟩ | ⟨h,_⟩
 ·cases l
 ·cases l
 ·exact⟨a,vs,rfl,rs,h⟩
theorem eq_279 {y:Int}(h:y.natAbs≤4611686018427387904):y.natAbs.log2<63:=by
 by_cases h0:y.natAbs=0
 ·rw[h0];decide
 ·rw[Nat.log2_lt h0];exact Nat.lt_of_le_of_lt h (by decide)
section
variable {m:Bool}{pa pb:PV}{a b:Value}{K:KP}{Q E:VS}
theorem eq_280 (k:n5 m pa pb σ K)(st:St cx h₀ ov as σ s.heap)(ra:az cx s.heap (Fz ov as) as pa a)(rb:az cx s.heap (Fz ov as) as pb b)(t:di cx h₀ ov as s K Q):wpAny (model cx.prog cx.w) A (binaryOp .Add a b) Q E s:=by
 obtain⟨l,k⟩:=rt k
 obtain⟨xs,e1,k⟩:=rf k
 obtain⟨ys,e2,k⟩:=rf k
 obtain⟨hz,k⟩:=rt k
 obtain⟨l1,l2⟩:=Bool.and_eq_true_iff.mp l
 obtain⟨a1,vs,rfl,r1,h1⟩:=eq_51 st ra e1 l1
 obtain⟨a2,ws,rfl,r2,h2⟩:=eq_51 st rb e2 l2
 refine eq_514 h1 h2 (by rw[r1.len,r2.len];exact Nat.le_of_ble_eq_true hz) ?_
 exact eq_49 (tk:=s.toks) st k (r2.app r1) t (fun J J e=>Heap.get?_push_of_some _ e) (rp _) (eq_19 _ _)
theorem eq_517 {xs ys:List D}(k:K (.p (.tup (xs++ys))) σ)(hz:xs.length+ys.length≤100000)(st:St cx h₀ ov as σ s.heap)(ra:az cx s.heap (Fz ov as) as (.p (.tup xs)) a)(rb:az cx s.heap (Fz ov as) as (.p (.tup ys)) b)(t:di cx h₀ ov as s K Q):wpAny (model cx.prog cx.w) A (binaryOp .Add a b) Q E s:=by
 obtain⟨a1,vs,rfl,f1,h1,r1⟩:=ra
 obtain⟨a2,ws,rfl,f2,h2,r2⟩:=rb
 refine eq_513 h1 h2 (by rw[r1.len,r2.len];exact hz) (fun J a ha=>?_) ?_
 ·rcases ha with ⟨rfl,rfl⟩ | ⟨rfl,rfl⟩
  ·have e:ys=[]:=List.eq_nil_of_length_eq_zero r2.len.symm
   subst e
   rw[append_nil] at k
   exact t.now st k ⟨_,_,rfl,f1,h1,r1⟩
  ·have e:xs=[]:=List.eq_nil_of_length_eq_zero r1.len.symm
   subst e
   exact t.now st k ⟨_,_,rfl,f2,h2,r2⟩
 ·obtain⟨st',f'⟩:=st.push {cls:=.type "tuple",data:=.seq (vs++ws).toArray}
  exact t _ σ _ as _ k f' st' ⟨_,vs++ws,rfl,st.fresh (rp _),⟨_,Heap.get?_push_size _ rfl⟩,DReps.mv f'.mv (r2.app r1)⟩
theorem eq_518 {x y:Int}{t1 t2:Tok}(hs:(dD x&&dD y)=true)(q:∀ n u,Q (.int (x*y) u) {s with toks:=n}):wpAny (model cx.prog cx.w) A (binaryOp .Mult (.int x t1) (.int y t2)) Q E s:=by
 refine mul_int (q _ _) (IntMulOk.of_left ?_)
 show PySem.Builtin.Int.intBits x≤64
 unfold PySem.Builtin.Int.intBits
 by_cases h0:x=0
 ·subst h0;decide
 ·rw[if_neg (by simpa using h0)]
  exact Nat.succ_le_of_lt (Nat.lt_succ_of_lt (eq_279 (eq_278 (Bool.and_eq_true_iff.mp hs).1)))
theorem eq_519 {op:Operator}(k0:ny op m pa pb σ K)(st:St cx h₀ ov as σ s.heap)(ra:az cx s.heap (Fz ov as) as pa a)(rb:az cx s.heap (Fz ov as) as pb b)(t:di cx h₀ ov as s K Q):wpAny (model cx.prog cx.w) A (binaryOp op a b) Q E s:=by
 cases op with
 | Add=>
  cases pa with
  | p d=>
   cases d with
   | int x=>
    obtain⟨y,e,k⟩:=rf (k:=fun y=>K (.p (.int (x+y))) σ) k0
    cases sR e
    obtain⟨t1,rfl⟩:=ra;obtain⟨t2,rfl⟩:=rb
    exact add_int (t.tok st k ⟨_,rfl⟩)
   | str x=>
    obtain⟨y,e,k⟩:=rf k0
    obtain⟨hs,k⟩:=rt k
    cases eq_2 e
    obtain⟨s1,t1,rfl⟩:=ra;obtain⟨s2,t2,rfl⟩:=rb
    refine add_str (fun t' tk=>?_) (by rw[eq_88,eq_88,sizeLine_eq];exact Nat.le_trans (Nat.le_of_ble_eq_true hs) (by decide))
    refine((eq_277 s1 s2).2).symm▸?_
    exact t.tok st k ⟨(eq_277 s1 s2).1,_,rfl⟩
   | tup xs=>
    obtain⟨ys,e,k⟩:=rf k0
    obtain⟨hs,k⟩:=rt k
    cases eq_142 e
    exact eq_517 k (Nat.le_of_ble_eq_true hs) st ra rb t
   | _=>exact eq_280 k0 st ra rb t
  | _=>exact eq_280 k0 st ra rb t
 | Sub=>
  obtain⟨x,y,t1,t2,rfl,rfl,k⟩:=sS (K:=fun x y=>K (.p (.int (x - y))) σ) k0 ra rb
  exact sub_int (t.tok st k ⟨_,rfl⟩)
 | Mult=>
  cases pa with
  | p d=>
   cases d with
   | int x=>
    obtain⟨y,e,k⟩:=rf k0
    obtain⟨hs,k⟩:=rt k
    cases sR e
    obtain⟨t1,rfl⟩:=ra;obtain⟨t2,rfl⟩:=rb
    exact eq_518 hs fun n u=>t.tok st k ⟨_,rfl⟩
   | lst xs=>
    obtain⟨y,e,k1⟩:=rf k0
    obtain⟨hs,k⟩:=rt k1
    clear k0 k1
    cases sR e
    obtain⟨h1,h2⟩:=Bool.and_eq_true_iff.mp hs
    cases eq_of_beq h1
    obtain⟨a1,vs,rfl,f1,h1,r1⟩:=ra
    obtain⟨t2,rfl⟩:=rb
    refine eq_516 h1 (by rw[r1.len];exact Nat.le_of_ble_eq_true h2) ?_
    exact eq_49 (tk:=s.toks) st k (sa (r1.app r1)) t (fun J J e=>Heap.get?_push_of_some _ e) (rp _) (eq_19 _ _)
   | _=>exact k0.elim
  | _=>exact k0.elim
 | FloorDiv=>
  obtain⟨x,y,t1,t2,rfl,rfl,k⟩:=sS (K:=fun x y=>cond (decide (0<y)&&dD y) (K (.p (.int (x / y))) σ) False) k0 ra rb
  obtain⟨hs,k⟩:=rt k
  obtain⟨h1,h2⟩:=Bool.and_eq_true_iff.mp hs
  have h1:=of_decide_eq_true h1
  refine floordiv_int (Int.ne_of_gt h1) ?_ (.inl (PyProof.noPylong_of_log2 (Nat.lt_of_lt_of_le (eq_279 (eq_278 h2)) (by decide))))
  refine(Int.fdiv_eq_ediv_of_nonneg _ (Int.le_of_lt h1))▸?_
  exact t.tok st k ⟨_,rfl⟩
 | Mod=>
  obtain⟨x,y,t1,t2,rfl,rfl,k⟩:=sS (K:=fun x y=>cond (decide (0<y)) (K (.p (.int (x % y))) σ) False) k0 ra rb
  obtain⟨hs,k⟩:=rt k
  have h1:=of_decide_eq_true hs
  refine mod_int (Int.ne_of_gt h1) ?_
  refine(Int.fmod_eq_emod_of_nonneg _ (Int.le_of_lt h1))▸?_
  exact t.tok st k ⟨_,rfl⟩
 | Pow=>
  obtain⟨x,y,t1,t2,rfl,rfl,k⟩:=sS (K:=fun x y=>cond (x==10&&y==18) (K (.p (.int 1000000000000000000)) σ) False) k0 ra rb
  obtain⟨hs,k⟩:=rt k
  obtain⟨h1,h2⟩:=Bool.and_eq_true_iff.mp hs
  cases eq_of_beq h1
  cases eq_of_beq h2
  exact pow_int (by decide) (by decide +kernel) (t.tok st k ⟨_,rfl⟩)
 | _=>exact k0.elim
end
theorem eq_520 {op:Operator}{m:Bool}{x y:T}{e1 e2:Expr}{pos:Pos}(h1:SE cx Φ d nm x e1)(h2:SE cx Φ d nm y e2):SE cx Φ d nm (.bin op m x y) (.BinOp e1 op e2 pos):=fun ρ σ K A env h₀ ov as s Q E hx H t=>by
 refine wpAny_BinOp (h1 ρ σ _ A env h₀ ov as s _ E hx H fun pa σ1 a as1 s1 k1 f1 st1 ra=>?_)
 refine h2 ρ σ1 _ A env h₀ ov as1 s1 _ E k1 (H.next f1 st1) fun pb σ2 b as2 s2 k2 f2 st2 rb=>?_
 exact eq_519 k2 st2 (f2.vrep ra) rb (t.fw (f1.trans f2))
end
noncomputable def kI {α:Type}(k:Sl) (n:Nat)(xs:List α):List α:=match k with
 | .upto=>xs.take n
 | .from_=>xs.drop n
 | .rev=>xs.reverse
 | .revTo=>(xs.drop 1).reverse
section
variable {cx:Cx}{h:Heap}{F:AP}{as:List (Addr×Addr)}
theorem VReps.drop {n:Nat}:∀ {xs:List PV}{vs:List Value},VReps cx h F as xs vs→VReps cx h F as (xs.drop n) (vs.drop n):=by
 induction n with
 | zero=>exact id
 | succ n ih=>intro xs vs e;cases xs with
  | nil=>cases e;rfl
  | cons x xs=>obtain⟨v,r,rfl,a,b⟩:=e;exact ih b
theorem VReps.take {n:Nat}:∀ {xs:List PV}{vs:List Value},VReps cx h F as xs vs→VReps cx h F as (xs.take n) (vs.take n):=by
 induction n with
 | zero=>exact fun J=>rfl
 | succ n ih=>intro xs vs e;cases xs with
  | nil=>cases e;rfl
  | cons x xs=>obtain⟨v,r,rfl,a,b⟩:=e;exact⟨v,_,rfl,a,ih b⟩
theorem VReps.rev {xs:List PV}:∀ {vs:List Value},VReps cx h F as xs vs→VReps cx h F as xs.reverse vs.reverse:=by
 induction xs with
 | nil=>intro vs e;cases e;rfl
 | cons x xs ih=>
  intro vs e
  obtain⟨v,r,rfl,a,b⟩:=e
  rw[List.reverse_cons,List.reverse_cons]
  exact VReps.app (show VReps cx h F as [x] [v] from⟨v,[],rfl,a,rfl⟩) (ih b)
end
theorem VReps.sl {cx:Cx}{h:Heap}{F:AP}{as:List (Addr×Addr)}{k:Sl}{n:Nat}{xs:List PV}{vs:List Value}(r:VReps cx h F as xs vs):VReps cx h F as (kI k n xs) (kI k n vs):=by
 cases k with
 | upto=>exact r.take
 | from_=>exact r.drop
 | rev=>exact r.rev
 | revTo=>exact r.drop.rev
noncomputable def lR (k:Sl) (n:Nat):Option Int:=match k with
 | .from_=>some (n:Int)
 | _=>none
noncomputable def lS (k:Sl) (n:Nat):Option Int:=match k with
 | .upto=>some (n:Int)
 | .revTo=>some 0
 | _=>none
noncomputable def eE (k:Sl):Option Int:=match k with
 | .upto=>none
 | .from_=>none
 | _=>some (-1)
theorem eq_521 {a j:Nat}(h:j<a):((a:Int) - 1+(j:Int)*(-1)).toNat=a - 1 - j:=by
 have e:(a:Int) - 1+(j:Int)*(-1)=((a - 1 - j:Nat):Int):=by
  rw[Int.natCast_sub (Nat.le_sub_one_of_lt h),Int.natCast_sub (Nat.lt_of_le_of_lt (Nat.zero_le _) h),Int.mul_neg,Int.mul_one,← Int.sub_eq_add_neg]
  rfl
 rw[e]
 rfl
theorem eq_522 (n:Nat):(List.range n).map (fun k=>n - k)=((List.range n).map (1+·)).reverse:=by
 refine List.ext_getElem (by rw[length_map,List.length_reverse,length_map]) fun i h1 h2=>?_
 rw[length_map,List.length_range] at h1
 rw[List.getElem_map,List.getElem_reverse,List.getElem_map,List.getElem_range,List.getElem_range,length_map,List.length_range]
 rw[Nat.sub_right_comm,Nat.add_comm,Nat.sub_add_cancel (Nat.sub_pos_of_lt h1)]
theorem eq_523 (vs:List Value):((List.range (vs.length - 1)).map fun k=>vs.length - 1 - k).filterMap (vs.toArray[·]?)=(vs.drop 1).reverse:=by
 rw[eq_522,List.filterMap_reverse,pick_run vs.toArray 1 (vs.length - 1),List.take_of_length_le (by rw[List.length_drop];exact Nat.le_refl _)]
theorem eq_524 (vs:List Value):slicePick vs.toArray none (some 0) (some (-1))=(vs.drop 1).reverse.toArray:=by
 cases vs with
 | nil=>rfl
 | cons v vs=>
  have e0:((vs.length+1:Nat):Int) - 1=(vs.length:Int):=by rw[Int.natCast_add];exact Int.add_sub_cancel _ _
  have b:sliceBounds none (some 0) (some (-1)) (vs.length+1)=((vs.length:Int),0,-1):=by
   show (((vs.length+1:Nat):Int) - 1,max (-1) (min 0 (((vs.length+1:Nat):Int) - 1)),(-1:Int))=_
   rw[e0,Int.min_eq_left (Int.natCast_nonneg _)]
   rfl
  have r:sliceRange (vs.length:Int) 0 (-1)=(List.range vs.length).map fun k=>vs.length - k:=by
   have c:(if (-1:Int)>0 then (if (vs.length:Int)<0 then (0 - (vs.length:Int)+-1 - 1) / -1 else 0) else (if (vs.length:Int)>0 then ((vs.length:Int) - 0 - -1 - 1) / (- -1) else 0))=(vs.length:Int):=by
    rw[if_neg (by decide),Int.sub_zero,Int.sub_neg,Int.add_sub_cancel,Int.neg_neg,Int.ediv_one]
    cases vs.length with
    | zero=>rfl
    | succ n=>exact if_pos (Int.natCast_pos.mpr (Nat.succ_pos n))
   unfold sliceRange
   rw[c]
   refine List.map_congr_left fun k hk=>?_
   have hk:k≤vs.length:=Nat.le_of_lt (List.mem_range.mp hk)
   rw[Int.neg_mul,Int.one_mul,← Int.sub_eq_add_neg,← Int.natCast_sub hk]
   rfl
  unfold slicePick
  rw[size_toArray,List.length_cons,b]
  show ((sliceRange (vs.length:Int) 0 (-1)).filterMap ((v::vs).toArray[·]?)).toArray=_
  rw[r]
  exact congrArg List.toArray (eq_523 (v::vs))
theorem eq_525 (k:Sl) (n:Nat)(vs:List Value):slicePick vs.toArray (lR k n) (lS k n) (eE k)=(kI k n vs).toArray:=by
 cases k with
 | upto=>exact slicePick_upto' vs.toArray n
 | from_=>exact slicePick_from' vs.toArray n
 | rev=>exact krv_pick vs.toArray
 | revTo=>exact eq_524 vs
noncomputable def nF (k:Sl) (n len:Nat):Int:=match k with
 | .upto=>0
 | .from_=>(min n len:Nat)
 | _=>(len:Int) - 1
noncomputable def oz (k:Sl) (n len:Nat):Nat:=match k with
 | .upto=>min n len
 | .from_=>len - min n len
 | _=>len
theorem eq_526 (a b:Nat):min (a:Int) (b:Int)=((min a b:Nat):Int):=by
 rcases Nat.le_total a b with h | h
 ·rw[Nat.min_eq_left h,Int.min_eq_left (Int.ofNat_le.mpr h)]
 ·rw[Nat.min_eq_right h,Int.min_eq_right (Int.ofNat_le.mpr h)]
theorem eq_281 (n len:Nat):(if (n:Int)<0 then max ((n:Int)+len) 0 else min (n:Int) len)=((min n len:Nat):Int):=by
 rw[if_neg (Int.not_lt.mpr (Int.natCast_nonneg n))]
 exact eq_526 n len
theorem eq_282 {a b:Nat}(h:a≤b):Builtin.Slice.slicePlaces (a:Int) (b:Int) 1=b - a:=by
 unfold Builtin.Slice.slicePlaces
 rw[if_pos (by decide),Int.ediv_one]
 by_cases q:a<b
 ·rw[if_pos (Int.ofNat_lt.mpr q),Int.sub_add_cancel,← Int.natCast_sub h]
  rfl
 ·rw[if_neg fun e=>q (Int.ofNat_lt.mp e),Nat.sub_eq_zero_of_le (Nat.le_of_not_lt q)]
  rfl
theorem eq_527 (len:Nat):Builtin.Slice.slicePlaces ((len:Int) - 1) (-1) (-1)=len:=by
 cases len with
 | zero=>decide
 | succ n=>
  unfold Builtin.Slice.slicePlaces
  rw[if_neg (by decide),show ((n+1:Nat):Int) - 1=(n:Int) by rw[Int.natCast_add];exact Int.add_sub_cancel _ _,if_pos (Int.lt_of_lt_of_le (by decide) (Int.natCast_nonneg n)),Int.sub_neg,Int.add_sub_cancel,Int.neg_neg,Int.ediv_one]
  rfl
theorem eq_528 (k:Sl)(hk:k.tp=true) (n len:Nat):∃ hi,Builtin.Slice.sliceAdjust (lR k n) (lS k n) ((eE k).getD 1) len=(nF k n len,hi)∧Builtin.Slice.slicePlaces (nF k n len) hi ((eE k).getD 1)=oz k n len:=by
 cases k with
 | upto=>exact⟨_,congrArg (Prod.mk (0:Int)) (eq_281 n len),(eq_282 (Nat.zero_le _)).trans (Nat.sub_zero _)⟩
 | from_=>exact⟨_,congrArg (fun x:Int=>(x,(len:Int))) (eq_281 n len),eq_282 (Nat.min_le_right n len)⟩
 | rev=>exact⟨-1,rfl,eq_527 len⟩
 | revTo=>exact ff hk
theorem eq_529 {α β:Type}{f g:α→Option β}{l:List α}(h:∀ j∈l,f j=g j):l.filterMap f=l.filterMap g:=by
 induction l with
 | nil=>rfl
 | cons x l ih=>rw[List.filterMap_cons,List.filterMap_cons,h x mem_cons_self,ih fun j hj=>h j (mem_cons_of_mem _ hj)]
theorem eq_283 (vs:List Value) (a b:Nat):(List.range b).filterMap (fun(j:Nat)=>vs.toArray[((a:Int)+(j:Int)*1).toNat]?)=(vs.drop a).take b:=by
 rw[show (fun(j:Nat)=>vs.toArray[((a:Int)+(j:Int)*1).toNat]?)=(vs.toArray[·]?) ∘ (a+·) from funext fun j=>by rw[Int.mul_one];rfl,← List.filterMap_map]
 exact pick_run vs.toArray a b
theorem eq_530 (k:Sl)(hk:k.tp=true) (n:Nat)(vs:List Value):((List.range (oz k n vs.length)).filterMap fun(j:Nat)=>vs.toArray[(nF k n vs.length+(j:Int)*(eE k).getD 1).toNat]?).toArray=(kI k n vs).toArray:=by
 refine congrArg List.toArray ?_
 cases k with
 | upto=>
  refine(eq_283 vs 0 (min n vs.length)).trans ?_
  show vs.take (min n vs.length)=vs.take n
  rcases Nat.le_total n vs.length with h | h
  ·rw[Nat.min_eq_left h]
  ·rw[Nat.min_eq_right h,List.take_of_length_le (Nat.le_refl _),List.take_of_length_le h]
 | from_=>
  refine(eq_283 vs (min n vs.length) (vs.length - min n vs.length)).trans ?_
  rw[List.take_of_length_le (by rw[List.length_drop];exact Nat.le_refl _)]
  show vs.drop (min n vs.length)=vs.drop n
  rcases Nat.le_total n vs.length with h | h
  ·rw[Nat.min_eq_left h]
  ·rw[Nat.min_eq_right h,List.drop_of_length_le (Nat.le_refl _),List.drop_of_length_le h]
 | rev=>
  have fm:=List.filterMap_map (f:=fun k=>vs.toArray.size - 1 - k) (g:=fun i=>vs.toArray[i]?) (l:=List.range vs.length)
  refine(eq_529 (g:=(fun i=>vs.toArray[i]?) ∘ fun k=>vs.toArray.size - 1 - k) fun j hj=>?_).trans (fm.symm.trans ?_)
  ·show vs.toArray[((vs.length:Int) - 1+(j:Int)*(-1)).toNat]?=vs.toArray[vs.toArray.size - 1 - j]?
   rw[eq_521 (a:=vs.length) (List.mem_range.mp hj),size_toArray]
  ·have q:=krv_range vs.toArray.size
   have q2:=krv_all vs.toArray
   rw[size_toArray] at q q2 ⊢
   rw[q,List.filterMap_reverse,q2]
   rfl
 | revTo=>exact ff hk
theorem eq_531 (k:Sl) (n:Nat)(vs:List Value)(h:(nF k n vs.length==0&&(eE k).getD 1==1&&oz k n vs.length==vs.length)=true):kI k n vs=vs:=by
 have h2:=eq_of_beq (aT h).2
 have h0:=eq_of_beq (aT (aT h).1).1
 have h1:=(aT (aT h).1).2
 cases k with
 | upto=>exact List.take_of_length_le (Nat.le_trans (Nat.le_of_eq h2.symm) (Nat.min_le_left n vs.length))
 | from_=>
  have e:min n vs.length=0:=Int.ofNat.inj h0
  show vs.drop n=vs
  rcases Nat.le_total n vs.length with h | h
  ·rw[Nat.min_eq_left h] at e
   rw[e]
   rfl
  ·rw[Nat.min_eq_right h] at e
   rw[List.eq_nil_of_length_eq_zero e,List.drop_nil]
 | rev=>exact absurd h1 (by decide)
 | revTo=>exact absurd h1 (by decide)
section
variable {cx:Cx}{Φ:b9}{d:Nat}{nm:List (Str×NameKind)}{ρ:aN}{σ:ak}{A:Around}{env:Env}{h₀:Heap}{ov:List Addr}{as as' as'':List (Addr×Addr)}{s s' s'':Shared}
theorem eq_148 {v:Value}{o:Option Int}(p:IsPart v o){Q:Option Int→Shared→Prop} {E}(h:Q o s):wpAny (model cx.prog cx.w) A (Builtin.Slice.slicePartIndex v) Q E s:=by
 cases p with
 | none=>exact slicePart_none h
 | int i t=>exact slicePart_int h
theorem eq_532 {sl:Addr}{k:Sl}(hk:k.tp=true){n len:Nat}{vl vu vk:Value}{Q:Int×Int×Nat→Shared→Prop} {E}(hs:s.heap.IsSliceOf sl vl vu vk)(pl:IsPart vl (lR k n))(pu:IsPart vu (lS k n))(pk:IsPart vk (eE k))
  (h:Q (nF k n len,(eE k).getD 1,oz k n len) s):wpAny (model cx.prog cx.w) A (Builtin.Slice.sliceApplied (.ref sl) (pure (len:Int))) Q E s:=by
 obtain⟨os,hos,hcs,hds⟩:=id hs
 obtain⟨hi,e1,e2⟩:=eq_528 k hk n len
 unfold Builtin.Slice.sliceApplied Builtin.Slice.sliceFields
 refine wpAny_bind (wpAny_bind (wpAny_field hos hds (x:=vl) rfl (wpAny_bind (wpAny_field hos hds (x:=vu) rfl (wpAny_bind (wpAny_field hos hds (x:=vk) rfl (wpAny_pure ?_)))))))
 refine wpAny_bind (eq_148 pk ?_)
 have h0:¬ (((eE k).getD 1==0)=true):=by cases k<;>decide
 show wpAny _ _ (if ((eE k).getD 1==0)=true then _ else _) _ _ s
 rw[if_neg h0]
 refine wpAny_bind (eq_148 pl (wpAny_bind (eq_148 pu (wpAny_bind (wpAny_pure ?_)))))
 show wpAny _ _ (match Builtin.Slice.sliceAdjust (lR k n) (lS k n) ((eE k).getD 1) (len:Int) with | (lo,hi)=>pure (lo,(eE k).getD 1,Builtin.Slice.slicePlaces lo hi ((eE k).getD 1))) _ _ s
 rw[e1]
 show wpAny _ _ (pure (nF k n len,(eE k).getD 1,Builtin.Slice.slicePlaces (nF k n len) hi ((eE k).getD 1))) _ _ s
 rw[e2]
 exact wpAny_pure h
theorem eq_533 {t:Addr}{items:Array Value}(ht:IsTup s.heap t items){P:Shared→Prop}(q:P s) {E}:wpAny (model cx.prog cx.w) A (Builtin.Tuple.tupleIsExact (.ref t)) (fun b s₁=>b=true∧P s₁) E s:=by
 unfold Builtin.Tuple.tupleIsExact
 exact wpAny_bind (wpAny_typeOf ht.typeIs (wpAny_pure ⟨by decide,q⟩))
theorem eq_534 {t sl:Addr}{vs:List Value}{k:Sl}(hk:k.tp=true){n:Nat}{vl vu vk:Value}{Q:VS} {E}(ht:dr s.heap t vs.toArray)(hs:s.heap.IsSliceOf sl vl vu vk)(pl:IsPart vl (lR k n))(pu:IsPart vu (lS k n))(pk:IsPart vk (eE k))
  (h0:kI k n vs=vs→Q (.ref t) s)
  (h:Q (.ref s.heap.objs.size) {s with heap:=s.heap.push {cls:=.type "tuple",data:=.seq (kI k n vs).toArray}})(hz:(kI k n vs).length≤100000):wpAny (model cx.prog cx.w) A (getItem (.ref t) (.ref sl)) Q E s:=by
 have hdrop:sizeOk (.seq (kI k n vs).toArray):=by
  show (kI k n vs).toArray.size≤sizeLine
  rw[size_toArray,sizeLine_eq]
  exact u1 hz rfl
 have ht:=ht.isTup
 obtain⟨os,hos,hcs,hds⟩:=id hs
 have hTs:s.TypeIs (.ref sl) "slice" :=⟨os,hos,hcs⟩
 unfold getItem
 try with_reducible refine wpAny_holding ?_
 first | refine wpAny_bind (wpAny_pure ?_) | skip
 refine wpAny_bind (wpAny_sequenceKey ht.typeIs (by decide) ?_)
 refine wpAny_bind (wpAny_callSpecial?_slot (name:=Str.ofString "__getitem__") ht.typeIs slot_tuple_getitem
  (wpAny_call_entry slot_tuple_getitem ht.typeIs entry_tuple_getitem ?_ (args_tuple_getitem _ _)))
 show wpAny _ _ (Builtin.Tuple.tupleItemsOf (.ref t) >>= _) _ _ s
 refine wpAny_bind (tupleItemsOf_ ht ?_)
 refine wpAny_bind (wpAny_typeOf hTs ?_)
 rw[if_pos (by decide)]
 refine wpAny_bind (eq_532 hk hs pl pu pk ?_)
 show wpAny _ _ (if (nF k n vs.toArray.size==0&&(eE k).getD 1==1&&oz k n vs.toArray.size==vs.toArray.size)=true then _ else _) _ _ s
 rw[size_toArray]
 by_cases hc:(nF k n vs.length==0&&(eE k).getD 1==1&&oz k n vs.length==vs.length)=true
 ·rw[if_pos hc]
  have q:=h0 (eq_531 k n vs hc)
  refine wpAny_bind (wpAny_mono (eq_533 (P:=Q (.ref t)) ht q) (fun b s₁ h₁=>?_) fun J J e=>e)
  obtain⟨rfl,q⟩:=h₁
  rw[if_pos rfl]
  exact wpAny_bind (wpAny_rule (wpAny_pure ⟨_,rfl,wpAny_pure q⟩))
 ·rw[if_neg hc,eq_530 k hk n vs]
  first
   | exact wpAny_bind (m:=Builtin.Tuple.tupleExact _) (wpAny_newObj_type (wpAny_pure ⟨_,rfl,wpAny_pure h⟩) hdrop)
   | exact wpAny_bind (m:=Builtin.Tuple.tupleExact _) (wpAny_newObj_type (wpAny_bind (wpAny_pure (wpAny_pure ⟨_,rfl,wpAny_pure h⟩))) hdrop)
   | exact wpAny_bind (wpAny_bind (m:=Builtin.Tuple.tupleExact _) (wpAny_newObj_type (wpAny_pure (wpAny_pure ⟨_,rfl,wpAny_pure h⟩)) hdrop))
   | exact wpAny_bind (wpAny_bind (m:=Builtin.Tuple.tupleExact _) (wpAny_newObj_type (wpAny_pure ⟨_,rfl,wpAny_pure h⟩) hdrop))
theorem eq_284 {i:Int}{n:Nat}(h:jS i=some n):i=n:=by
 cases i with
 | ofNat m=>cases h;rfl
 | negSucc m=>cases h
theorem eq_89 {v:PV}{n:Nat}(h:(kB v).bind jS=some n):v=.p (.int n):=by
 obtain⟨i,e,h⟩:=Option.bind_eq_some_iff.mp h
 rw[sR e,eq_284 h]
theorem eq_285 {k:Sl}{i:PV}{xs ys:List PV}(e:eC k i xs=some ys):∃ n,ys=kI k n xs∧xs.length≤100000∧((k=.rev∧n=0)∨(i=.p (.int (n:Nat))∧(k=.revTo→n=0))):=by
 obtain⟨hz,e⟩:=so e
 have hz:=Nat.le_of_ble_eq_true hz
 cases k with
 | upto=>obtain⟨n,q,rfl⟩:=Option.map_eq_some_iff.mp e;exact⟨n,rfl,hz,.inr ⟨eq_89 q,fun h=>nomatch h⟩⟩
 | from_=>obtain⟨n,q,rfl⟩:=Option.map_eq_some_iff.mp e;exact⟨n,rfl,hz,.inr ⟨eq_89 q,fun h=>nomatch h⟩⟩
 | rev=>cases e;exact⟨0,rfl,hz,.inl ⟨rfl,rfl⟩⟩
 | revTo=>
  obtain⟨n,q,e⟩:=Option.bind_eq_some_iff.mp e
  obtain⟨h0,e⟩:=so e
  cases e
  exact⟨n,rfl,hz,.inr ⟨eq_89 q,fun J=>eq_of_beq h0⟩⟩
theorem eq_535 {α:Type}(k:Sl) (n:Nat)(xs:List α):(kI k n xs).length≤xs.length:=by
 cases k with
 | upto=>exact List.length_take_le' n xs
 | from_=>rw[show kI .from_ n xs=xs.drop n from rfl,List.length_drop];exact Nat.sub_le _ _
 | rev=>exact Nat.le_of_eq List.length_reverse
 | revTo=>rw[show kI .revTo n xs=(xs.drop 1).reverse from rfl,List.length_reverse,List.length_drop];exact Nat.sub_le _ _
theorem eq_90 {m:Bool}{k:Sl}{pa pi:PV}{a:Value}{sl:Addr}{vl vu vk:Value}{value slc:Expr}{ops:List Value}{K:KP}{Q:VS} {E}(hk:oN m k pa pi σ K)(st:St cx h₀ ov as σ s.heap)(ra:az cx s.heap (Fz ov as) as pa a)
  (hs:s.heap.IsSliceOf sl vl vu vk)(hp:∀ n,((k=.rev∧n=0)∨(pi=.p (.int (n:Nat))∧(k=.revTo→n=0)))→IsPart vl (lR k n)∧IsPart vu (lS k n)∧IsPart vk (eE k))(t:di cx h₀ ov as s K Q)
  (hb:subscripted slc false a (.ref sl)=operate ops (getItem a (.ref sl))) :
  wpAny (model cx.prog cx.w) A (subscriptTail value slc a (.ref sl)) Q E s:=by
 have lst:lP pa=true→n6 m k pa pi σ K→wpAny (model cx.prog cx.w) A (subscriptTail value slc a (.ref sl)) Q E s:=fun il hk=>by
  obtain⟨xs,e,hk⟩:=rf hk
  obtain⟨ys,e2,hk⟩:=rf hk
  obtain⟨n,rfl,hz',hn⟩:=eq_285 e2
  obtain⟨c,vs,rfl,rs,pl⟩:=eq_51 st ra e il
  obtain⟨p1,p2,p3⟩:=hp n hn
  refine tail_any pl.isList.typeIs slot_list_getitem.lookup (wpAny_getItem_list_slice pl.isList hs p1 p2 p3 (by cases k<;>decide) ?_ (by rw[size_toArray,rs.len,sizeLine_eq];exact u1 hz' rfl)) hb
  rw[eq_525]
  exact eq_49 (tk:=s.toks) st hk rs.sl t (fun J J e=>Heap.get?_push_of_some _ e) (rp _) (eq_19 _ _)
 cases pa with
 | p d=>
  cases d with
  | tup xs=>
   obtain⟨htp,hk⟩:=rt hk
   obtain⟨ys,e2,hk1⟩:=rf hk
   obtain⟨n,rfl,hz',hn⟩:=eq_285 e2
   clear lst hk
   obtain⟨c,vs,rfl,fc,ht,rs⟩:=ra
   obtain⟨p1,p2,p3⟩:=hp n hn
   have rs':VReps cx s.heap (Fz ov as) as (xs.map .p) vs:=sa rs
   refine tail_any ht.isTup.typeIs PySem.F.slot_tuple_getitem.lookup (eq_534 htp ht hs p1 p2 p3 (fun e=>?_) ?_ ?_) hb
   ·refine t.now st hk1 (eq_48 fc ht ?_)
    have:=rs'.sl (k:=k) (n:=n)
    rwa [e] at this
   ·obtain⟨st',f'⟩:=st.push {cls:=.type "tuple",data:=.seq (kI k n vs).toArray}
    exact t _ σ _ as _ hk1 f' st' (eq_48 (st.fresh (rp _)) ⟨_,Heap.get?_push_size _ rfl⟩ (f'.vreps rs'.sl))
   ·have:=eq_535 k n vs
    rw[rs'.len] at this
    exact Nat.le_trans this hz'
  | lst xs=>exact lst rfl hk
  | _=>exact False.elim hk
 | ref i=>exact lst rfl hk
 | mix xs=>exact hk.elim
 | _=>exact False.elim hk
theorem eq_536 {m:Bool}{x y:T}{e1 e2:Expr}{p pos:Pos}(h1:SE cx Φ d nm x e1)(h2:SE cx Φ d nm y e2):SE cx Φ d nm (.slc m .upto x y) (.Subscript e1 (.Slice none (some e2) none p) pos):=fun ρ σ K A env h₀ ov as s Q E hx H t=>by
 refine Subscript_ (h1 ρ σ _ A env h₀ ov as s _ E hx H fun pa σ1 a as1 s1 k1 f1 st1 ra=>?_)
 refine wpAny_Slice (wpAny_evalPart_none ?_)
 refine wpAny_evalPart_some (h2 ρ σ1 _ A env h₀ ov as1 s1 _ E k1 (H.next f1 st1) fun pb σ2 b as2 s2 k2 f2 st2 rb=>?_)
 refine wpAny_evalPart_none ?_
 obtain⟨st3,f3⟩:=st2.push {cls:=.type "slice",data:=.fields #[.none,b,.none]}
 refine eq_90 (s:={s2 with heap:=s2.heap.push {cls:=.type "slice",data:=.fields #[.none,b,.none]}}) k2 st3 (f3.vrep (f2.vrep ra)) (Heap.IsSliceOf.new ..) (fun n hn=>?_) (t.fw ((f1.trans f2).trans f3)) rfl
 rcases hn with ⟨h,_⟩ | ⟨rfl,_⟩
 ·cases h
 ·obtain⟨t1,rfl⟩:=rb
  exact⟨.none,.int _ _,.none⟩
theorem eq_537 {m:Bool}{x y:T}{e1 e2:Expr}{p pos:Pos}(h1:SE cx Φ d nm x e1)(h2:SE cx Φ d nm y e2):SE cx Φ d nm (.slc m .from_ x y) (.Subscript e1 (.Slice (some e2) none none p) pos):=fun ρ σ K A env h₀ ov as s Q E hx H t=>by
 refine Subscript_ (h1 ρ σ _ A env h₀ ov as s _ E hx H fun pa σ1 a as1 s1 k1 f1 st1 ra=>?_)
 refine wpAny_Slice ?_
 refine wpAny_evalPart_some (h2 ρ σ1 _ A env h₀ ov as1 s1 _ E k1 (H.next f1 st1) fun pb σ2 b as2 s2 k2 f2 st2 rb=>?_)
 refine wpAny_evalPart_none (wpAny_evalPart_none ?_)
 obtain⟨st3,f3⟩:=st2.push {cls:=.type "slice",data:=.fields #[b,.none,.none]}
 refine eq_90 (s:={s2 with heap:=s2.heap.push {cls:=.type "slice",data:=.fields #[b,.none,.none]}}) k2 st3 (f3.vrep (f2.vrep ra)) (Heap.IsSliceOf.new ..) (fun n hn=>?_) (t.fw ((f1.trans f2).trans f3)) rfl
 rcases hn with ⟨h,_⟩ | ⟨rfl,_⟩
 ·cases h
 ·obtain⟨t1,rfl⟩:=rb
  exact⟨.int _ _,.none,.none⟩
theorem eq_538 {m:Bool}{x:T}{e1:Expr}{k:Nat}{p p1 p2 pos:Pos}(h1:SE cx Φ d nm x e1):SE cx Φ d nm (.slc m .rev x (.con .none)) (.Subscript e1 (.Slice none none (some (.UnaryOp .USub (.Constant (.int 1) k p1) p2)) p) pos):=fun ρ σ K A env h₀ ov as s Q E hx H t=>by
 refine Subscript_ (h1 ρ σ _ A env h₀ ov as s _ E hx H fun pa σ1 a as1 s1 k1 f1 st1 ra=>?_)
 refine wpAny_Slice (wpAny_evalPart_none (wpAny_evalPart_none ?_))
 refine wpAny_evalPart_some (wpAny_UnaryOp (wpAny_Constant_int (neg_int ?_)))
 obtain⟨st3,f3⟩:=st1.push {cls:=.type "slice",data:=.fields #[.none,.none,.int (-1) (s1.toks+1)]}
 have f4:Fw as1 as1 s1 {s1 with heap:=s1.heap.push {cls:=.type "slice",data:=.fields #[.none,.none,.int (-1) (s1.toks+1)]},toks:=s1.toks+1+1}:=f3.trans (Fw.toks _ _ _)
 refine eq_90 (s:={s1 with heap:=s1.heap.push {cls:=.type "slice",data:=.fields #[.none,.none,.int (-1) (s1.toks+1)]},toks:=s1.toks+1+1}) k1 st3 (f3.vrep ra) (Heap.IsSliceOf.new ..) (fun n hn=>?_) (t.fw (f1.trans f4)) rfl
 rcases hn with ⟨h,rfl⟩ | ⟨h,_⟩
 ·exact⟨.none,.none,.int _ _⟩
 ·cases h
theorem eq_539 {m:Bool}{x:T}{e1:Expr}{k k0:Nat}{p p0 p1 p2 pos:Pos}(h1:SE cx Φ d nm x e1):SE cx Φ d nm (.slc m .revTo x (.con (.int 0))) (.Subscript e1 (.Slice none (some (.Constant (.int 0) k0 p0)) (some (.UnaryOp .USub (.Constant (.int 1) k p1) p2)) p) pos):=fun ρ σ K A env h₀ ov as s Q E hx H t=>by
 refine Subscript_ (h1 ρ σ _ A env h₀ ov as s _ E hx H fun pa σ1 a as1 s1 k1 f1 st1 ra=>?_)
 refine wpAny_Slice (wpAny_evalPart_none ?_)
 refine wpAny_evalPart_some (wpAny_Constant_int ?_)
 refine wpAny_evalPart_some (wpAny_UnaryOp (wpAny_Constant_int (neg_int ?_)))
 obtain⟨st3,f3⟩:=st1.push {cls:=.type "slice",data:=.fields #[.none,.int 0 s1.toks,.int (-1) (s1.toks+1+1)]}
 have f4:Fw as1 as1 s1 {s1 with heap:=s1.heap.push {cls:=.type "slice",data:=.fields #[.none,.int 0 s1.toks,.int (-1) (s1.toks+1+1)]},toks:=s1.toks+1+1+1}:=f3.trans (Fw.toks _ _ _)
 refine eq_90 (s:={s1 with heap:=s1.heap.push {cls:=.type "slice",data:=.fields #[.none,.int 0 s1.toks,.int (-1) (s1.toks+1+1)]},toks:=s1.toks+1+1+1}) k1 st3 (f3.vrep ra) (Heap.IsSliceOf.new ..) (fun n hn=>?_) (t.fw (f1.trans f4)) rfl
 rcases hn with ⟨h,rfl⟩ | ⟨h,e⟩
 ·cases h
 ·exact⟨.none,.int _ _,.int _ _⟩
end
section
variable {cx:Cx}{Φ:b9}{d:Nat}{nm:List (Str×NameKind)}{ρ:aN}{σ:ak}{A:Around}{env:Env}{h₀:Heap}{ov nw:List Addr}{as as' as'':List (Addr×Addr)}{s s' s'':Shared}
theorem tC {h:Heap}(hn:∀ b∈nw,h.get? b=none){h':Heap}(kp:∀ b x,h.get? b=some x→h'.get? b=some x):Mv h h' (Fz ov as) (Fz (nw++ov) as):=fun b o f e=>
 ⟨⟨fun hb=>(mem_append.mp hb).elim (fun q=>rh e (hn b q) rfl) f.1,f.2⟩,kp b o e⟩
theorem St.hide (t:St cx h₀ ov as σ s.heap){h':Heap}(hn:∀ b∈nw,s.heap.get? b=none)(kp:∀ b x,s.heap.get? b=some x→h'.get? b=some x)(ha:∀ b∈nw,∃ o,h'.get? b=some o) :
  St cx h₀ (nw++ov) as σ h' where
 keep:=fun b o e=>kp b o (t.keep b o e)
 ovOld:=fun b hb=>(mem_append.mp hb).elim (fun q=>t.nold (hn b q)) (t.ovOld b)
 asOld:=t.asOld
 ovIn:=fun b hb=>(mem_append.mp hb).elim (ha b) fun q=>let ⟨o,e⟩:=t.ovIn b q;⟨o,kp b o e⟩
 ovAs:=fun b hb=>(mem_append.mp hb).elim (fun q l hl=>let ⟨⟨_,e1⟩,_,e2⟩:=t.at hl;⟨(rh e1 (hn b q)).symm,(rh e2 (hn b q)).symm⟩) (t.ovAs b)
 apart:=t.apart
 len:=t.len
 cells:=fun i l c h1 h2=>(t.cells i l c h1 h2).mv (tC hn kp) (cB.refl _) (fun o e=>kp _ _ e) (fun o e=>kp _ _ e)
theorem St.weak {h:Heap}(t:St cx h₀ (nw++ov) as σ h):St cx h₀ ov as σ h where
 keep:=t.keep
 ovOld:=fun b hb=>t.ovOld b (mem_append_right _ hb)
 asOld:=t.asOld
 ovIn:=fun b hb=>t.ovIn b (mem_append_right _ hb)
 ovAs:=fun b hb=>t.ovAs b (mem_append_right _ hb)
 apart:=t.apart
 len:=t.len
 cells:=fun i l c h1 h2=>(t.cells i l c h1 h2).mv (fun b o f e=>⟨⟨fun hb=>f.1 (mem_append_right _ hb),f.2⟩,e⟩) (cB.refl _) (fun o e=>e) (fun o e=>e)
theorem St.over {h h':Heap}(t:St cx h₀ ov as σ h)(kp:∀ b x,b∉ov→h.get? b=some x→h'.get? b=some x)(lv:∀ b∈ov,∃ y,h'.get? b=some y):St cx h₀ ov as σ h' where
 keep:=fun b o e=>kp b o (fun hb=>rh e (t.ovOld b hb) rfl) (t.keep b o e)
 ovOld:=t.ovOld
 asOld:=t.asOld
 ovIn:=lv
 ovAs:=t.ovAs
 apart:=t.apart
 len:=t.len
 cells:=fun i l c h1 h2=>by
  have lm:l∈as:=List.mem_iff_getElem?.mpr ⟨i,h1⟩
  exact(t.cells i l c h1 h2).mv (fun b o f e=>⟨f,kp b o f.1 e⟩) (cB.refl _) (fun o e=>kp _ _ (fun hb=>(t.ovAs _ hb l lm).1 rfl) e) (fun o e=>kp _ _ (fun hb=>(t.ovAs _ hb l lm).2 rfl) e)
theorem eq_52 {h h':Heap}(kp:∀ b x,b∉ov→h.get? b=some x→h'.get? b=some x):Mv h h' (Fz ov as) (Fz ov as):=fun b o f e=>⟨f,kp b o f.1 e⟩
theorem tD (h:Heap):Mv h h (Fz (nw++ov) as) (Fz ov as):=fun b o f e=>⟨⟨fun hb=>f.1 (mem_append_right _ hb),f.2⟩,e⟩
theorem EnvR.hide (r:EnvR cx nm env ρ ov as s.heap){h':Heap}(hn:∀ b∈nw,s.heap.get? b=none)(kp:∀ b x,s.heap.get? b=some x→h'.get? b=some x):EnvR cx nm env ρ (nw++ov) as h' where
 names:=r.names
 kind:=r.kind
 glob:=r.glob
 bi:=r.bi
 lo:=let ⟨m,o,es,ep,e,q⟩:=r.lo;⟨m,o,es,ep,kp _ _ e,q⟩
 loOv:=mem_append_right _ r.loOv
 cOv:=fun n c h=>mem_append_right _ (r.cOv n c h)
 cIs:=fun n c h=>let ⟨v,o,e,q⟩:=r.cIs n c h;⟨v,o,kp _ _ e,q⟩
 apart:=r.apart
 kinds:=r.kinds
 vals:=fun x v k sv hl hk hq=>by
  obtain⟨u,hu,hr⟩:=r.vals x v k sv hl hk hq
  refine⟨u,?_,az.mv (tC hn kp) (cB.refl _) hr⟩
  rcases hu with ⟨a,m,⟨o,es,ep,e,q⟩,e2⟩ | ⟨a,c,hc,o,e,q⟩
  ·exact .inl ⟨a,m,⟨o,es,ep,kp _ _ e,q⟩,e2⟩
  ·exact .inr ⟨a,c,hc,o,kp _ _ e,q⟩
theorem Here.hide (H:Here cx d nm ρ σ A env h₀ ov as s){h':Heap}{tk:Nat}(hn:∀ b∈nw,s.heap.get? b=none)(kp:∀ b x,s.heap.get? b=some x→h'.get? b=some x)(ha:∀ b∈nw,∃ o,h'.get? b=some o) :
  Here cx d nm ρ σ A env h₀ (nw++ov) as {s with heap:=h',toks:=tk}∧Fw as as s {s with heap:=h',toks:=tk}:=
 ⟨⟨H.a,H.gd,H.st.hide hn kp ha,H.env.hide hn kp⟩,(H.st.kp kp tk).2⟩
theorem Fw.over (x:Fw as as' s s')(hn:∀ b∈nw,s.heap.get? b=none){h':Heap}(kp:∀ b y,b∉nw→s'.heap.get? b=some y→h'.get? b=some y) (tk:Nat):Fw as as' s {s' with heap:=h',toks:=tk}:=by
 have nn:∀ b y,s.heap.get? b=some y→b∉nw:=fun b y e hb=>rh e (hn b hb) rfl
 refine⟨x.pre,fun b o c e=>kp b o (nn b o e) (x.kept b o c e),fun b o e=>?_,?_⟩
 ·obtain⟨o',e'⟩:=x.live b o e
  exact⟨o',kp b o' (nn b o e) e'⟩
 ·obtain⟨h1,t1,rfl⟩:=x.rest
  exact⟨h',tk,rfl⟩
theorem tJ (h:Heap){l:Addr×Addr}(l1:l.1∈nw)(l2:l.2∈nw):Mv h h (Fz (nw++ov) as) (Fz ov (as++[l])):=fun b o f e=>
 ⟨⟨fun hb=>f.1 (mem_append_right _ hb),sP f.2 fun x hx=>by
  rw[mem_singleton.mp hx]
  exact⟨fun q=>f.1 (mem_append_left _ (by rw[q];exact l1)),fun q=>f.1 (mem_append_left _ (by rw[q];exact l2))⟩⟩,e⟩
theorem St.promote (t:St cx h₀ (nw++ov) as' σ s'.heap){l:Addr×Addr}{c:Cell}(l1:l.1∈nw)(l2:l.2∈nw)(hc:f7 cx s'.heap (Fz ov (as'++[l])) (as'++[l]) l c)(f:Fw as as' s s')(n1:s.heap.get? l.1=none)(n2:s.heap.get? l.2=none)
  (hno:∀ b∈ov,b≠l.1∧b≠l.2):St cx h₀ ov (as'++[l]) (σ++[c]) s'.heap∧Fw as (as'++[l]) s s':=by
 refine⟨⟨t.keep,fun b hb=>t.ovOld b (mem_append_right _ hb),fun x hx=>?_,fun b hb=>t.ovIn b (mem_append_right _ hb),fun b hb=>?_,?_,by simp[t.len],fun i l' c' h1 h2=>?_⟩,?_⟩
 ·rcases mem_append.mp hx with hx | hx
  ·exact t.asOld x hx
  ·rw[mem_singleton.mp hx];exact⟨t.ovOld _ (mem_append_left _ l1),t.ovOld _ (mem_append_left _ l2)⟩
 ·refine sP (t.ovAs b (mem_append_right _ hb)) fun x hx=>?_
  rw[mem_singleton.mp hx]
  exact hno b hb
 ·refine List.pairwise_append.mpr ⟨t.apart,List.pairwise_singleton _ _,fun x hx y hy=>?_⟩
  rw[mem_singleton.mp hy]
  have c1:=t.ovAs _ (mem_append_left _ l1) x hx
  have c2:=t.ovAs _ (mem_append_left _ l2) x hx
  exact⟨c1.1.symm,c2.1.symm,c1.2.symm,c2.2.symm⟩
 ·by_cases hi:i<as'.length
  ·rw[List.getElem?_append_left hi] at h1
   rw[List.getElem?_append_left (t.len▸hi)] at h2
   exact(t.cells i l' c' h1 h2).mv (tJ s'.heap l1 l2) (cB.app _ _) (fun J e=>e) (fun J e=>e)
  ·have h3:i=as'.length:=by
    have:=(List.getElem?_eq_some_iff.mp h1).1
    simp at this;lia
   subst h3
   simp at h1
   rw[t.len] at h2
   simp at h2
   subst h1;subst h2
   exact hc
 ·obtain⟨nv,e,hv⟩:=f.pre
  refine⟨⟨nv++[l],by rw[e,append_assoc],fun x hx=>?_⟩,f.kept,f.live,f.rest⟩
  rcases mem_append.mp hx with hx | hx
  ·exact hv x hx
  ·rw[mem_singleton.mp hx];exact⟨n1,n2⟩
theorem eq_540 {kvs:List (Str×Value)}{k:Str}{v:Value}(h:k∉kvs.map (·.1))(x:Str):valueAt (kvs++[(k,v)]) x=if x=k then some v else valueAt kvs x:=by
 unfold valueAt
 rw[List.find?_append]
 by_cases e:x=k
 ·subst e
  have:kvs.find? (fun kv=>decide (kv.1=x))=none:=List.find?_eq_none.mpr fun kv hk=>by
   simp only[decide_eq_true_eq];intro e;exact h (List.mem_map.mpr ⟨kv,hk,e⟩)
  rw[this];simp
 ·have e':¬ k=x:=fun q=>e q.symm
  simp[e,e']
theorem eq_541 {kvs:List (Str×Value)}{k:Str}{v:Value}(h:k∉kvs.map (·.1)):stored kvs k v=kvs++[(k,v)]:=by
 unfold stored
 rw[if_neg]
 intro hb
 obtain⟨kv,hk,e⟩:=List.any_eq_true.mp hb
 exact h (List.mem_map.mpr ⟨kv,hk,of_decide_eq_true e⟩)
theorem eq_149:∀ {more acc:List (Str×Value)},((acc++more).map (·.1)).Nodup→merged acc more=acc++more
 | [],acc,_=>by simp[merged]
 | (k,v)::more,acc,h=>by
  have e:(acc++(k,v)::more)=(acc++[(k,v)])++more:=by simp
  have hk:k∉acc.map (·.1):=by
   rw[map_append,List.nodup_append] at h
   intro q
   exact h.2.2 k q k (by simp) rfl
  show merged (stored acc k v) more=_
  rw[eq_541 hk,e]
  exact eq_149 (by rw[← e];exact h)
theorem eq_91 {ks:List Nat}(h:fk ks=true):ks.Nodup:=by
 induction ks with
 | nil=>exact List.nodup_nil
 | cons k ks ih=>
  obtain⟨h1,h2⟩:=Bool.and_eq_true_iff.mp h
  refine List.nodup_cons.mpr ⟨fun hk=>?_,ih h2⟩
  rw[List.contains_iff_mem.mpr hk] at h1;cases h1
def dt (cx:Cx)(h:Heap)(F:AP)(as:List (Addr×Addr)):List Nat→List PV→List (Str×Value)→Prop
 | [],vs,kvs=>vs=[]∧kvs=[]
 | k::ks,vs,kvs=>∃ v vr u r,vs=v::vr∧kvs=(aJ k,u)::r∧bc k=true∧az cx h F as v u∧dt cx h F as ks vr r
theorem dt.facts {h:Heap}{F:AP}{ks:List Nat}:∀ {vs:List PV}{kvs:List (Str×Value)},dt cx h F as ks vs kvs→kvs.length=ks.length∧kvs.map (·.1)=ks.map aJ∧∀ k∈ks,bc k=true:=by
 induction ks with
 | nil=>intro vs kvs r;obtain⟨_,rfl⟩:=r;exact⟨rfl,rfl,fun J h=>nomatch h⟩
 | cons k ks ih=>
  intro vs kvs r
  obtain⟨v,vr,u,r,_,rfl,sk,_,q⟩:=r
  obtain⟨a,b,c⟩:=ih q
  exact⟨congrArg (·+1) a,congrArg (aJ k::·) b,List.forall_mem_cons.mpr ⟨sk,c⟩⟩
theorem dt.len {h:Heap}{F:AP}{ks:List Nat}{vs:List PV}{kvs:List (Str×Value)}(r:dt cx h F as ks vs kvs):kvs.length=ks.length:=r.facts.1
theorem dt.keys {h:Heap}{F:AP}{ks:List Nat}{vs:List PV}{kvs:List (Str×Value)}(r:dt cx h F as ks vs kvs):kvs.map (·.1)=ks.map aJ∧∀ k∈ks,bc k=true:=r.facts.2
theorem eq_150 {ks:List Nat}(h:∀ k∈ks,bc k=true)(n:ks.Nodup):(ks.map aJ).Nodup:=by
 induction ks with
 | nil=>exact List.nodup_nil
 | cons k ks ih=>
  obtain⟨n1,n2⟩:=List.nodup_cons.mp n
  refine List.nodup_cons.mpr ⟨fun hm=>?_,ih (fun x hx=>h x (mem_cons_of_mem _ hx)) n2⟩
  obtain⟨y,hy,e⟩:=List.mem_map.mp hm
  exact n1 (sQ (h y (mem_cons_of_mem _ hy)) (h k mem_cons_self) e▸hy)
theorem dt.freps {h:Heap}{F:AP}{ks:List Nat}:∀ {vs:List PV}{kvs:List (Str×Value)},dt cx h F as ks vs kvs→ks.Nodup→∀ {f:Str→Option Value},(∀ x,valueAt kvs x=f x)→FReps cx h F as ks vs f:=by
 induction ks with
 | nil=>intro vs kvs r _ f hf;obtain⟨rfl,rfl⟩:=r;exact⟨rfl,fun x=>(hf x).symm⟩
 | cons k ks ih=>
  intro vs kvs r n f hf
  obtain⟨v,vr,u,r,rfl,rfl,sk,rv,q⟩:=r
  obtain⟨n1,n2⟩:=List.nodup_cons.mp n
  refine⟨sk,⟨u,(hf _).symm.trans (by simp[valueAt]),rv⟩,ih q n2 fun x=>?_⟩
  by_cases e:x=aJ k
  ·subst e
   rw[if_pos rfl]
   unfold valueAt
   have:r.find? (fun kv=>decide (kv.1=aJ k))=none:=List.find?_eq_none.mpr fun kv hk e=>by
    have:aJ k∈ks.map aJ:=by rw[← q.keys.1,← of_decide_eq_true e];exact List.mem_map_of_mem hk
    obtain⟨y,hy,e2⟩:=List.mem_map.mp this
    exact n1 (sQ (q.keys.2 y hy) sk e2▸hy)
   rw[this];rfl
  ·rw[if_neg e,← hf]
   have e':¬ aJ k=x:=fun q=>e q.symm
   simp[valueAt,e']
theorem t4 {a:Addr}(h:mainGlobals<a):(a==sysModules)=false:=by
 rw[beq_eq_false_iff_ne]
 intro e
 subst e
 exact absurd h (by decide)
theorem Here.newSys (H:Here cx d nm ρ σ A env h₀ ov as s):(s.heap.objs.size==sysModules)=false:=by
 obtain⟨p,loose,mg,mb,T⟩:=H.gd.top
 obtain⟨o,es,ep,e,_⟩:=T.g
 exact t4 (Heap.lt_size (H.st.keep _ _ e))
theorem eq_542 {pos:Pos}:SE cx Φ d nm (.dic true .nil) (.Dict [] [] pos):=fun ρ σ K A env h₀ ov as s Q E hx H t=>by
 refine wpAny_Dict_empty ?_
 have hx:K (.ref σ.length) (σ++[.dict [] []]):=hx
 have kp:∀ b x,s.heap.get? b=some x→(s.heap.push {cls:=.type "dict",data:=.dict #[]}).get? b=some x:=fun J J e=>Heap.get?_push_of_some _ e
 obtain⟨st',f'⟩:=H.st.add (l:=(s.heap.objs.size,s.heap.objs.size)) (c:=.dict [] []) kp (rp _) (rp _) ⟨rfl,fun J=>none,⟨[],Heap.DictOf.new _,rfl,fun J=>rfl,H.newSys⟩,rfl,fun J=>rfl⟩ s.toks
 exact t _ _ _ _ _ hx f' st' ⟨(s.heap.objs.size,s.heap.objs.size),by rw[← H.st.len];simp,rfl⟩
noncomputable def kJ:List (Value×Value)→List Value
 | []=>[]
 | p::r=>p.1::p.2::kJ r
def oA (cx:Cx)(Φ:b9) (d:Nat)(nm:List (Str×NameKind))(x:T)(ks:List (Option Expr))(vs:List Expr):Prop:=
 ∀ ρ σ (K:List PV→ak→Prop) A env h₀ ov as s (Q:List (Value×Value)→Shared→Prop) E pos,evsP cx.P.tab Φ x ρ σ K→Here cx d nm ρ σ A env h₀ ov as s→
  (∀ pvs σ' vs as' s',K pvs σ'→Fw as as' s s'→St cx h₀ ov as' σ' s'.heap→VReps cx s'.heap (Fz ov as') as' pvs (kJ vs)→Q vs s')→
  wpAny (model cx.prog cx.w) A (evalPairs (pairTrees ks vs env pos)) Q E s
theorem eq_543:oA cx Φ d nm .nil [] []:=fun ρ σ K A env h₀ ov as s Q E pos h H t=>pairTrees_nil_walk (t [] σ [] as s h (Fw.refl _ _) H.st rfl)
theorem eq_544 {x y z:T}{k v:Expr}{ks:List (Option Expr)}{vs:List Expr}(h1:SE cx Φ d nm x k)(h2:SE cx Φ d nm y v)(h3:oA cx Φ d nm z ks vs):oA cx Φ d nm (.cons x (.cons y z)) (some k::ks) (v::vs):=fun ρ σ K A env h₀ ov as s Q E pos h H t=>by
 refine pairTrees_cons_walk (h1 ρ σ _ A env h₀ ov as s _ E h H fun pv σ1 v1 as1 s1 k1 f1 st1 r1=>?_)
 refine h2 ρ σ1 _ A env h₀ ov as1 s1 _ E k1 (H.next f1 st1) fun pv2 σ2 v2 as2 s2 k2 f2 st2 r2=>?_
 refine h3 ρ σ2 _ A env h₀ ov as2 s2 _ E pos k2 (H.next (f1.trans f2) st2) fun pvs σ3 vs as3 s3 k3 f3 st3 rs=>?_
 exact t _ σ3 _ as3 s3 k3 ((f1.trans f2).trans f3) st3 ⟨v1,_,rfl,(f2.trans f3).vrep r1,v2,_,rfl,f3.vrep r2,rs⟩
theorem eq_545 {h:Heap}{F:AP}{vs:List (Value×Value)}:∀ {pvs:List PV}{q:List Nat×List PV},jp pvs=some q→VReps cx h F as pvs (kJ vs)→∃ kvs,Carries (PySem.strKind cx.prog cx.w) vs kvs∧dt cx h F as q.1 q.2 kvs:=by
 induction vs with
 | nil=>
  intro pvs q e r
  cases pvs with
  | nil=>cases e;exact⟨[],trivial,rfl,rfl⟩
  | cons x xs=>obtain⟨_,_,e,_⟩:=r;cases e
 | cons p vs ih=>
  intro pvs q e r
  cases pvs with
  | nil=>cases r
  | cons k r1=>
   cases r1 with
   | nil=>cases e
   | cons v pvs=>
    obtain⟨key,hk,e⟩:=Option.bind_eq_some_iff.mp e
    obtain⟨q',e',rfl⟩:=Option.map_eq_some_iff.mp e
    cases eq_2 hk
    obtain⟨u1,t1,e1,a1,u2,t2,e2,a2,rr⟩:=r
    cases e1;cases e2
    obtain⟨kvs,c,kr⟩:=ih e' rr
    obtain⟨sk,tk,e3⟩:=a1
    refine⟨(aJ key,p.2)::kvs,⟨?_,rfl,c⟩,v,q'.2,p.2,kvs,rfl,rfl,sk,a2,kr⟩
    rw[e3]
    exact strKind_is _ _ _ _
theorem dt.mv {h h':Heap}{F F':AP}{as as':List (Addr×Addr)}(m:Mv h h' F F')(p:cB as as'){ks:List Nat}:∀ {vs:List PV}{kvs:List (Str×Value)},dt cx h F as ks vs kvs→dt cx h' F' as' ks vs kvs:=by
 induction ks with
 | nil=>exact id
 | cons k ks ih=>intro vs kvs r;obtain⟨v,vr,u,r,e,e',sk,rv,q⟩:=r;exact⟨v,vr,u,r,e,e',sk,rv.mv m p,ih q⟩
theorem rl {a:Addr}{h h':Heap}(x:Heap.SameBut a h h'){b:Addr}{o:Obj}(n:b≠a)(e:h.get? b=some o):h'.get? b=some o:=(x.2 b n).trans e
theorem eq_546 {m:Bool}{x:T}{keys:List (Option Expr)}{values:List Expr}{pos:Pos}(hall:keys.all (·.isSome)=true)(hl:keys.length=values.length)(hne:keys≠[])(hlen:keys.length≤15)(h:oA cx Φ d nm x keys values) :
  SE cx Φ d nm (.dic m x) (.Dict keys values pos):=fun ρ σ K A env h₀ ov as s Q E hx H t=>by
 have hn:∀ b∈[s.heap.objs.size],s.heap.get? b=none:=fun b hb=>by rw[mem_singleton.mp hb];exact rp _
 have kp:∀ b x,s.heap.get? b=some x→(s.heap.push {cls:=.type "dict",data:=.dict #[]}).get? b=some x:=fun J J e=>Heap.get?_push_of_some _ e
 have a0:=Heap.DictOf.new (knd:=PySem.strKind cx.prog cx.w) s.heap
 obtain⟨H1,f1⟩:=H.hide (tk:=s.toks) hn kp (fun b hb=>by rw[mem_singleton.mp hb];exact⟨_,Heap.get?_push_size _ rfl⟩)
 refine wpAny_Dict_walk (knd:=PySem.strKind cx.prog cx.w) hall hl hne hlen ?_
 refine h ρ σ _ A env h₀ _ as {s with heap:=_} _ E pos hx H1 fun pvs σ2 vs as2 s2 k2 f2 st2 rs=>?_
 ·obtain⟨q,hq,k2⟩:=rf (o:=jp pvs) k2
  obtain⟨nd,k2⟩:=rt k2
  obtain⟨kvs,cr,kr⟩:=eq_545 hq rs
  have cv:Cv as s.heap.objs.size:=H1.st.ovAs _ mem_cons_self
  obtain⟨o0,es0,ep0,e0,r0⟩:=a0
  refine⟨kvs,cr,⟨o0,es0,ep0,f2.kept _ _ cv e0,r0⟩,fun h' hd hs=>?_⟩
  have nd':=eq_91 nd
  have mk:merged [] kvs=kvs:=eq_149 (by rw[List.nil_append,kr.keys.1];exact eq_150 kr.keys.2 nd')
  rw[mk] at hd
  have kp2:∀ b x,b∉[s.heap.objs.size]→s2.heap.get? b=some x→h'.get? b=some x:=fun b x hb e=>rl hs (fun q=>hb (by rw[q];exact mem_cons_self)) e
  have dd:ce cx h' s.heap.objs.size q.1.length (valueAt kvs):=⟨kvs,hd,kr.len,fun J=>rfl,H.newSys⟩
  have kp2':∀ b x,b∉[s.heap.objs.size]++ov→s2.heap.get? b=some x→h'.get? b=some x:=fun b x hb e=>kp2 b x (fun q=>hb (mem_append_left _ q)) e
  have st4:St cx h₀ ([s.heap.objs.size]++ov) as2 σ2 h':=st2.over (h':=h') kp2' fun b hb=>by
   obtain⟨o,e⟩:=st2.ovIn b hb
   by_cases q:b=s.heap.objs.size
   ·rw[q];exact dd.obj
   ·exact⟨o,rl hs q e⟩
  have st3:=st4.weak
  have fw:Fw as as2 s {s2 with heap:=h',toks:=s2.toks+vs.length}:=(f1.trans f2).over hn kp2 _
  have mv:Mv s2.heap h' (Fz ([s.heap.objs.size]++ov) as2) (Fz ov as2):=fun b o f e=>⟨⟨fun hb=>f.1 (mem_append_right _ hb),f.2⟩,kp2 b o (fun hb=>f.1 (mem_append_left _ hb)) e⟩
  have cv2:Cv as2 s.heap.objs.size:=st2.ovAs _ mem_cons_self
  have nov:s.heap.objs.size∉ov:=fun hb=>by obtain⟨o,e⟩:=H.st.ovIn _ hb;exact rh e (rp _) rfl
  cases m with
  | false=>
   refine t _ σ2 _ as2 _ k2 fw st3 ⟨_,valueAt kvs,rfl,⟨nov,cv2⟩,dd,(kr.mv mv (cB.refl _)).freps nd' fun J=>rfl⟩
  | true=>
   have mvp:=tJ (nw:=[s.heap.objs.size]) (ov:=ov) (as:=as2) h' (l:=(s.heap.objs.size,s.heap.objs.size)) mem_cons_self mem_cons_self
   obtain⟨st5,f5⟩:=St.promote (s':={s2 with heap:=h',toks:=s2.toks+vs.length}) st4 (l:=(s.heap.objs.size,s.heap.objs.size)) (c:=.dict q.1 q.2) mem_cons_self mem_cons_self
    ⟨rfl,valueAt kvs,dd,(kr.mv ((eq_52 kp2').trans mvp) (cB.app _ _)).freps nd' fun J=>rfl⟩ fw (rp _) (rp _) (fun b hb=>⟨fun q=>nov ((show b=s.heap.objs.size from q)▸hb),fun q=>nov ((show b=s.heap.objs.size from q)▸hb)⟩)
   exact t _ _ _ _ _ k2 f5 st5 ⟨(s.heap.objs.size,s.heap.objs.size),by rw[← st2.len];simp,rfl⟩
end
end Mine
end
section
set_option genSizeOf false
set_option genCtorIdx false
set_option genInjectivity false
namespace Mine
open PySem PySem.W PySem.Calls PyProof.Rows PySem.Spec
section
variable {cx:Cx}{Φ:b9}{d:Nat}{nm:List (Str×NameKind)}{ρ:aN}{σ:ak}{A:Around}{env:Env}{h₀:Heap}{ov nw:List Addr}{as as' as'':List (Addr×Addr)}{s s' s'':Shared}
noncomputable def bp:List Expr→Bool
 | []=>true
 | e::r=>cw e&&bp r
theorem eq_151 {es:List Expr}(h:bp es=true):((starEach es env).any (·.1))=false:=by
 induction es with
 | nil=>rfl
 | cons e r ih=>
  obtain⟨h1,h2⟩:=Bool.and_eq_true_iff.mp h
  rw[eq_81 h1,List.any_cons,ih h2];rfl
theorem eq_152 {pos:Pos}{l:List (Bool×Sem Value)}(h:l.any (·.1)=false):(backTo pos l).any (·.1)=false:=by
 induction l with
 | nil=>rfl
 | cons p l ih=>obtain⟨h1,h2⟩:=Bool.or_eq_false_iff.mp h;exact Bool.or_eq_false_iff.mpr ⟨h1,ih h2⟩
noncomputable def lB (K:Frag):Value→Bool
 | .ref a=>keepIn K (.ref a)
 | _=>true
theorem eq_547 {M:Model}{K:Frag}{f:Value}(hk:lB K f=true)(h:Heap)(X:K.In h):∃ k,(k=Keeper.frame∨k=Keeper.machine∨k=Keeper.boundFrame)∧Looks M h (keeperOf f) k:=by
 cases f with
 | ref a=>exact keeps_K (f:=.ref a) (show keepIn K (.ref a)=true from hk) h X
 | _=>exact⟨.machine,.inr (.inl rfl),Looks.of_pure rfl⟩
theorem eq_20 {x:T}{es:List Expr}{f:Value}{first:List Value}{pos:Pos}{K:List PV→ak→Prop} {Q E}(hk:lB cx.K f=true)(hs:bp es=true)(h:ly cx Φ d nm x es)(hx:evsP cx.P.tab Φ x ρ σ K)(H:Here cx d nm ρ σ A env h₀ ov as s)
  (t:∀ pvs σ' vs as' s',K pvs σ'→Fw as as' s s'→St cx h₀ ov as' σ' s'.heap→VReps cx s'.heap (Fz ov as') as' pvs vs→wpAny (model cx.prog cx.w) A (call f (first++vs)) Q E s') :
  wpAny (model cx.prog cx.w) A (callWith pos f first (backTo pos (starEach es env)) []) Q E s:=by
 refine callWith_of (P:=fun h=>cx.K.In h) (by rw[eq_152 (eq_151 hs)];rfl) (eq_547 hk) ?_
 have key:=h ρ σ K A env h₀ ov as s (fun vs s'=>cx.K.In s'.heap∧wpAny (model cx.prog cx.w) A (call f (first++vs)) Q E s') E hx H
  (fun pvs σ' vs as' s' k f st r hl=>⟨H.gd.X.keeps st.keep,t pvs σ' vs as' s' k f st r⟩) pos
 cases es with
 | nil=>
  unfold evalArgs
  show wpAny _ A (spliced [] >>= _) _ E s
  refine wpAny_bind (wpAny_mono key (fun vs s' h'=>?_) fun J J x=>x)
  first
   | exact wpAny_bind (wpAny_pure (wpAny_holding (wpAny_bind (wpAny_pure (wpAny_bind (wpAny_pure (wpAny_pure h')))))))
   | exact wpAny_holding (wpAny_bind (wpAny_pure (wpAny_bind (wpAny_pure (wpAny_pure h')))))
 | cons e r=>
  rw[eq_81 (Bool.and_eq_true_iff.mp hs).1] at key ⊢
  exact evalArgs_plain key
theorem eq_286 {o:Expr}{name:Str}{apos pos:Pos}{args:List Expr}{Q:VS} {E}
  (hbase:attributeBase o name env (eval o env)=eval o env)(hs:bp args=true)(hn:args.length<30)(hline:(apos.endLine==pos.line)=true)
  (h:wpAny (model cx.prog cx.w) A (eval o env) (fun ov s₁=>∀ pl,wpAny (model cx.prog cx.w) A (getMethod ov name pl) (fun r s₂=>wpAny (model cx.prog cx.w) A (callWith pos r.1 r.2 (backTo pos (starEach args env)) []) Q E s₂) E s₁) E s) :
  wpAny (model cx.prog cx.w) A (eval (.Call (.Attribute o name apos) args [] pos) env) Q E s:=by
 have al:(backTo pos (starEach args env)).all (fun x=>!x.1)=true:=by
  have:=eq_152 (pos:=pos) (eq_151 (env:=env) hs)
  rw[List.all_eq_not_any_not]
  simpa using this
 have hform:methodCallForm (args.length+([]:List Keyword).length) (backTo pos (starEach args env)) (backToKw pos (keywordEach [] env))=true:=by
  unfold methodCallForm
  rw[al]
  show (true&&true&&decide (args.length+0+0<30))=true
  simpa using hn
 have hpos:methodCallPos true o env apos pos=pure pos:=by unfold methodCallPos;simp[hline]
 rw[arm_eval_Call,hbase]
 refine wpAny_bind (wpAny_mono h (fun ov s₁ h₁=>?_) fun J J e=>e)
 refine wpAny_bind (wpAny_standAt ?_)
 unfold methodCall
 rw[hform]
 refine wpAny_bind (wpAny_holding (wpAny_mono (h₁ _) (fun r s₂ h₂=>?_) fun J J e=>e))
 exact wpAny_bind (wpAny_of_eq hpos h₂)
noncomputable def du:Expr→Bool
 | .Call (.Name ..) ..=>false
 | _=>true
set_option tactic.hygienic true in
theorem eq_153 {o:Expr}{name:Str}(h:du o=true):attributeBase o name env (eval o env)=eval o env:=by
 cases o<;>first | rfl | skip
 rename_i f _ _ _
 cases f<;>first | rfl | cases h
structure BltAt (cx:Cx)(nm:List (Str×NameKind))(n:Str)(v:Value):Prop where
 hd:(n==("__debug__" : Str))=false
 hg:ig (nm.lookup n)=true
 he:lA (nsIn cx.K mainGlobals n)=true
 hv:bootBuiltins n=some v
 hn:n≠"__name__"
 hk:lB cx.K v=true
theorem VReps.one {h:Heap}{F:AP}{v:PV}{vs:List Value}(r:VReps cx h F as [v] vs):∃ u,vs=[u]∧az cx h F as v u:=by
 obtain⟨u,t,rfl,a,e⟩:=r
 cases e
 exact⟨u,rfl,a⟩
theorem VReps.two {h:Heap}{F:AP}{v w:PV}{vs:List Value}(r:VReps cx h F as [v,w] vs):∃ u x,vs=[u,x]∧az cx h F as v u∧az cx h F as w x:=by
 obtain⟨u,t,rfl,a,e⟩:=r
 obtain⟨x,rfl,b⟩:=VReps.one e
 exact⟨u,x,rfl,a,b⟩
theorem sY {vs:List PV}{k:PV→Prop}(h:d9 vs k):∃ a,vs=[a]∧k a:=by
 cases vs with
 | nil=>exact h.elim
 | cons a r=>cases r with
  | nil=>exact⟨a,rfl,h⟩
  | cons b r=>exact h.elim
theorem eq_154 {vs:List PV}{k:PV→PV→Prop}(h:nA vs k):∃ a b,vs=[a,b]∧k a b:=by
 cases vs with
 | nil=>exact h.elim
 | cons a r=>obtain⟨b,rfl,h⟩:=sY h;exact⟨a,b,rfl,h⟩
def gb (cx:Cx) (d:Nat)(nm:List (Str×NameKind))(G:List PV→ak→(PV→ak→Prop)→Prop)(f:Value):Prop:=∀ A s σ as h₀ ov pvs vs K Q E ρ env,G pvs σ K→Here cx d nm ρ σ A env h₀ ov as s→VReps cx s.heap (Fz ov as) as pvs vs→di cx h₀ ov as s K Q→wpAny (model cx.prog cx.w) A (call f vs) Q E s
def gL (cx:Cx) (d:Nat)(nm:List (Str×NameKind))(G:PV→ak→(PV→ak→Prop)→Prop)(f:Value):Prop:=∀ A s σ as h₀ ov pv v K Q E ρ env,G pv σ K→Here cx d nm ρ σ A env h₀ ov as s→az cx s.heap (Fz ov as) as pv v→di cx h₀ ov as s K Q→wpAny (model cx.prog cx.w) A (call f [v]) Q E s
theorem gL.n {G:PV→ak→(PV→ak→Prop)→Prop}{f:Value}(R:gL cx d nm G f):gb cx d nm (fun as σ K=>d9 as fun a=>G a σ K) f:=fun A s σ as h₀ ov pvs vs K Q E ρ env hx H r t=>by
 obtain⟨a,rfl,hx⟩:=sY hx
 obtain⟨u,rfl,ra⟩:=r.one
 exact R A s σ as h₀ ov a u K Q E ρ env hx H ra t
theorem sp {b:Blt}{m:Bool}{x:T}{n:Str}{v:Value}{np pos:Pos}{es:List Expr}(B:BltAt cx nm n v)(hs:bp es=true)(h:ly cx Φ d nm x es)(run:gb cx d nm (fZ b m) v):SE cx Φ d nm (.blt b m x) (.Call (.Name n np) es [] pos):=fun ρ σ K A env h₀ ov as s Q E hx H t=>by
 refine wpAny_Call_ofName (eq_80 H B.hd B.hg B.he B.hv B.hn ?_)
 refine eq_20 (first:=[]) B.hk hs h hx H fun pvs σ' vs as' s' k f st r=>?_
 exact run A s' σ' as' h₀ ov pvs vs K Q E ρ env k (H.next f st) r (t.fw f)
theorem eq_548 (t:St cx h₀ ov as σ s.heap){pv:PV}{v:Value}{n:Nat}(r:az cx s.heap (Fz ov as) as pv v)(e:mj pv σ=some n) :
  (∃ a vs,v=.ref a∧vs.length=n∧(dr s.heap a (List.toArray vs)∨s.heap.PlainList a (List.toArray vs)))∨∃ a f,v=.ref a∧ce cx s.heap a n f:=by
 unfold mj at e
 cases q:bw σ pv with
 | some xs=>
  rw[q] at e
  cases e
  obtain⟨a,vs,rfl,rs,hh⟩:=eq_3 t r q
  exact .inl ⟨a,vs,rfl,rs.len,hh.imp (·.1) (·.1)⟩
 | none=>
  rw[q] at e
  obtain⟨dd,e',rfl⟩:=Option.map_eq_some_iff.mp e
  obtain⟨c,f,rfl,hd,_⟩:=eq_47 (ks:=dd.1) (vs:=dd.2) t r e'
  exact .inr ⟨c,f,rfl,hd⟩
theorem eq_549 {m:Bool}:gb cx d nm (fZ .len m) (.builtin "len"):=gL.n fun A s σ as h₀ ov a u K Q E ρ env hx H ra t=>by
 obtain⟨n,e,hx⟩:=rf hx
 obtain⟨hz,hx⟩:=rt hx
 have hz:=Nat.le_of_ble_eq_true hz
 rcases eq_548 H.st ra e with ⟨c,vs,rfl,hl,ht | hp⟩ | ⟨c,f,rfl,kvs,hd,hn,_,hsys⟩
 ·refine len_tuple ht.isTup (by rw[size_toArray];lia) ?_
  rw[size_toArray,hl]
  exact t.tok H.st hx ⟨_,rfl⟩
 ·refine call_len_list hp.isList (by rw[size_toArray];lia) ?_
  rw[size_toArray,hl]
  exact t.tok H.st hx ⟨_,rfl⟩
 ·refine call_len_dict hsys hd (by lia) ?_
  rw[hn]
  exact t.tok H.st hx ⟨_,rfl⟩
theorem eq_287 {a:PV}{k:List PV→Prop}(h:ml a σ k):∃ xs,bw σ a=some xs∧xs.length≤100000∧k xs:=by
 obtain⟨xs,e,h⟩:=rf h
 obtain⟨hz,h⟩:=rt h
 exact⟨xs,e,Nat.le_of_ble_eq_true hz,h⟩
theorem eq_550 {m:Bool}:gb cx d nm (fZ .list m) (.type "list"):=gL.n fun A s σ as h₀ ov a u K Q E ρ env hx H ra t=>by
 obtain⟨xs,e,hz,hx⟩:=eq_287 hx
 obtain⟨c,vs,rfl,rs,hh⟩:=eq_3 H.st ra e
 have hq:vs.toArray.size≤sizeLine:=by rw[size_toArray,rs.len,sizeLine_eq];exact Nat.le_trans hz (by decide)
 have go:∀ (h':Heap)(c':Addr),(∀ b x,s.heap.get? b=some x→h'.get? b=some x)→s.heap.get? c'=none→h'.PlainList c' vs.toArray→Q (.ref c') {s with heap:=h'}:=fun h' c' kp n il=>eq_49 (tk:=s.toks) H.st hx rs t kp n il
 rcases hh with ⟨⟨k,ho⟩,_⟩ | ⟨⟨k,ho⟩,_⟩
 ·exact call_list_seq c (.inr rfl) ho rfl rfl (fun h' c' kp hn=>go _ _ kp (rp _) ⟨_,hn⟩) hq
 ·exact call_list_seq c (.inl rfl) ho rfl rfl (fun h' c' kp hn=>go _ _ kp (rp _) ⟨_,hn⟩) hq
theorem eq_551 (st:St cx h₀ ov as σ s.heap){c:Addr}{vs:List Value}{pvs:List PV}{K:KP} {Q E}(hp:s.heap.PlainList c (List.toArray vs))(hz:vs.length≤100000)(rs:VReps cx s.heap (Fz ov as) as pvs vs)(k:K (dX pvs) σ)(t:di cx h₀ ov as s K Q) :
  wpAny (model cx.prog cx.w) A (call (.type "tuple") [.ref c]) Q E s:=by
 refine call_tuple_list hp.isList (fun h' kp=>?_) (by rw[size_toArray,sizeLine_eq];exact u1 hz rfl)
 have kp2:∀ b x,s.heap.get? b=some x→(h'.push {cls:=.type "tuple",data:=.seq vs.toArray}).get? b=some x:=fun b x e=>Heap.get?_push_of_some _ (kp b x e)
 obtain⟨st',f'⟩:=st.kp kp2 s.toks
 refine t _ σ _ as _ k f' st' (eq_48 ?_ ⟨_,Heap.get?_push_size _ rfl⟩ (f'.vreps rs))
 refine st.fresh ?_
 cases q:s.heap.get? h'.objs.size with
 | none=>rfl
 | some o=>exact absurd (kp _ _ q) (by rw[rp];exact fun e=>nomatch e)
theorem eq_288 {a:PV}{u:Value}{K:KP} {Q E}(hx:ml a σ fun xs=>K (dX xs) σ)(l:lP a=true)(st:St cx h₀ ov as σ s.heap)(ra:az cx s.heap (Fz ov as) as a u)(t:di cx h₀ ov as s K Q):wpAny (model cx.prog cx.w) A (call (.type "tuple") [u]) Q E s:=by
 obtain⟨xs,e,hz,hx⟩:=eq_287 hx
 obtain⟨c,vs,rfl,rs,hp⟩:=eq_51 st ra e l
 exact eq_551 st hp (by rw[rs.len];exact hz) rs hx t
theorem eq_552 {m:Bool}:gb cx d nm (fZ .tuple m) (.type "tuple"):=gL.n fun A s σ as h₀ ov a u K Q E ρ env hx H ra t=>by
 cases a with
 | p d=>cases d with
  | tup xs=>obtain⟨c,vs,rfl,fc,ht,rs⟩:=ra;exact call_tuple_tup ht.isTup (t.now H.st hx ⟨c,vs,rfl,fc,ht,rs⟩)
  | lst xs=>exact eq_288 (a:=.p (.lst xs)) (K:=K) hx rfl H.st ra t
  | _=>exact False.elim hx
 | ref i=>exact eq_288 (a:=.ref i) (K:=K) hx rfl H.st ra t
 | _=>exact False.elim hx
theorem eq_553 {m:Bool}:gb cx d nm (fZ .int m) (.type "int"):=gL.n fun A s σ as h₀ ov a u K Q E ρ env hx H ra t=>by
 obtain⟨i,e,hx⟩:=rf (o:=kB a) (k:=fun i=>K (.p (.int i)) σ) hx
 cases sR e
 obtain⟨t1,rfl⟩:=ra
 exact call_int_int (t.now H.st hx ⟨_,rfl⟩)
theorem eq_554 {i:Int}(h:i.natAbs<1000000000):i.natAbs.log2<1920:=by
 by_cases h0:i.natAbs=0
 ·rw[h0];decide
 ·have:i.natAbs.log2<30:=by
   rw[Nat.log2_lt h0];exact u1 h rfl
  exact u1 this rfl
theorem eq_555 (x:Str)(h:PyData.strOk x=true):bc (pc x)=true∧aJ (pc x)=x:=by
 have a:(x.cps.toList.all (·<0x110000))=true:=by
  unfold PyData.strOk at h
  simpa using h
 obtain⟨h1,h2⟩:=eq_87 a
 refine⟨h1,h2.trans ?_⟩
 simp
theorem eq_556 (x:String):PyData.strOk (Str.ofString x)=true:=by
 rw[PySem.Str.ofString_eq_toList]
 unfold PyData.strOk
 simp only[List.all_toArray,List.all_map,List.all_eq_true,Function.comp]
 intro c _
 have:=c.valid
 unfold UInt32.isValidChar Nat.isValidChar at this
 have e:c.toNat=c.val.toNat:=rfl
 simp only[decide_eq_true_eq]
 rw[e]
 exact this.elim (fun h=>Nat.lt_trans h (qZ rfl)) fun h=>h.2
theorem eq_557 {m:Bool}:gb cx d nm (fZ .str m) (.type "str"):=gL.n fun A s σ as h₀ ov a u K Q E ρ env hx0 H ra t=>by
 obtain⟨i,e,hx1⟩:=rf hx0
 obtain⟨hz,hx⟩:=rt hx1
 cases sR e
 obtain⟨t1,rfl⟩:=ra
 refine P.str_of_int (eq_554 (of_decide_eq_true hz)) ?_
 have q:=eq_555 _ (eq_556 (toString i))
 exact t.tok H.st hx ⟨q.1,s.toks,by show _=Value.str (aJ (pc _)) _;rw[q.2]⟩
theorem eq_558 {m:Bool}:gb cx d nm (fZ .min m) (.builtin "min"):=fun A s σ as h₀ ov pvs vs K Q E ρ env hx H r t=>by
 obtain⟨a,b,rfl,hx⟩:=eq_154 hx
 obtain⟨u,v,rfl,ra,rb⟩:=r.two
 obtain⟨i,j,t1,t2,rfl,rfl,hx⟩:=sS (K:=fun x y=>K (.p (.int (bif decide (y<x) then y else x))) σ) hx ra rb
 refine min_two_ints H.a.hand fun h' tk kp=>?_
 obtain⟨st',f'⟩:=H.st.kp kp tk
 refine t _ σ _ as _ hx f' st' ?_
 by_cases q:j<i
 ·rw[if_pos q,decide_eq_true q];exact⟨_,rfl⟩
 ·rw[if_neg q,decide_eq_false q];exact⟨_,rfl⟩
theorem eq_559 {h:Heap}{F:AP}{xs:List PV}:∀ {vs:List Value}{ns:List Int},VReps cx h F as xs vs→kE xs=some ns→IntsAre vs ns:=by
 induction xs with
 | nil=>intro vs ns e q;cases e;cases q;exact .nil
 | cons x xs ih=>
  intro vs ns e q0
  obtain⟨v,r,rfl,a,b⟩:=e
  obtain⟨i,e,q1⟩:=Option.bind_eq_some_iff.mp q0
  obtain⟨ns,q,rfl⟩:=Option.map_eq_some_iff.mp q1
  clear q0 q1
  cases sR e
  obtain⟨t,rfl⟩:=a
  exact .cons _ _ (ih b q)
theorem eq_289 (st:St cx h₀ ov as σ s.heap){pv:PV}{v:Value}{k:List Int→Prop}(r:az cx s.heap (Fz ov as) as pv v)(h:mn pv σ k) :
  ∃ a xs',v=.ref a∧s.heap.IsList a (intItems xs')∧k (xs'.toList.map (·.1)):=by
 obtain⟨l,h⟩:=rt h
 obtain⟨xs,e,h⟩:=rf h
 obtain⟨ns,q,h⟩:=rf h
 obtain⟨a,vs,rfl,rs,hp⟩:=eq_51 st r e l
 have hi:=eq_559 rs q
 obtain⟨ys,hy⟩:=hi.allInts.items
 refine⟨a,ys,rfl,hy▸hp.isList,?_⟩
 rw[← nums_intItems,← hy,show numsOf vs.toArray.toList=ns from hi.numsOf]
 exact h
theorem eq_560 (r:List Int):∀ (m:Int),jT m r∈m::r∧∀ a∈m::r,a≤jT m r:=by
 induction r with
 | nil=>exact fun m=>⟨mem_cons_self,fun a h=>by rw[mem_singleton.mp h];exact Int.le_refl _⟩
 | cons x r ih=>
  intro m
  obtain⟨h1,h2⟩:=ih (bif decide (m<x) then x else m)
  have hm:(bif decide (m<x) then x else m)=x∧m≤x∨(bif decide (m<x) then x else m)=m∧x≤m:=by
   by_cases q:m<x
   ·rw[decide_eq_true q];exact .inl ⟨rfl,Int.le_of_lt q⟩
   ·rw[decide_eq_false q];exact .inr ⟨rfl,Int.not_lt.mp q⟩
  show jT (bif decide (m<x) then x else m) r∈m::x::r∧∀ a∈m::x::r,a≤jT (bif decide (m<x) then x else m) r
  generalize (bif decide (m<x) then x else m)=z at *
  have hz:=h2 z mem_cons_self
  have hr:∀ a∈r,a≤jT z r:=fun a h=>h2 a (mem_cons_of_mem _ h)
  rcases hm with ⟨rfl,q⟩ | ⟨rfl,q⟩
  ·exact⟨mem_cons_of_mem _ h1,List.forall_mem_cons.mpr ⟨Int.le_trans q hz,List.forall_mem_cons.mpr ⟨hz,hr⟩⟩⟩
  ·refine⟨?_,List.forall_mem_cons.mpr ⟨hz,List.forall_mem_cons.mpr ⟨Int.le_trans q hz,hr⟩⟩⟩
   rcases mem_cons.mp h1 with e | e
   ·rw[e];exact mem_cons_self
   ·exact mem_cons_of_mem _ (mem_cons_of_mem _ e)
theorem eq_561 {m:Bool}:gb cx d nm (fZ .max m) (.builtin "max"):=gL.n fun A s σ as h₀ ov a u K Q E ρ env hx H ra t=>by
 obtain⟨c,ys,rfl,il,hx⟩:=eq_289 H.st ra hx
 obtain⟨y,e,hx⟩:=rf hx
 cases hl:ys.toList.map (·.1) with
 | nil=>rw[hl] at e;cases e
 | cons x r=>
  rw[hl] at e
  cases e
  have hz:0<ys.size:=by
   have:=congrArg List.length hl
   rw[length_map,Array.length_toList] at this
   rw[this];exact Nat.succ_pos _
  refine max_intList H.a.hand il hz fun v h' tk hv kp=>?_
  obtain⟨t1,rfl⟩:=intItems_at hv
  obtain⟨h1,h2⟩:=argBest_gt (numAt ys) (ys.size - 1)
  have hm:=eq_560 r x
  have e1:numAt ys (argBest (fun i j=>decide (numAt ys i>numAt ys j)) (ys.size - 1))=jT x r:=by
   refine Int.le_antisymm (hm.2 _ ?_) ?_
   ·rw[← hl,numAt_eq];exact getD_mem (by rw[length_map,Array.length_toList];exact Nat.lt_of_le_of_lt h1 (Nat.sub_lt hz Nat.one_pos))
   ·have hm1:=hm.1
    rw[← hl] at hm1
    obtain⟨j,hj,e⟩:=mem_getD hm1
    rw[length_map,Array.length_toList] at hj
    rw[← e,← numAt_eq];exact h2 j (Nat.le_sub_one_of_lt hj)
  obtain⟨st',f'⟩:=H.st.kp kp tk
  exact t _ σ _ as _ hx f' st' ⟨_,by rw[e1]⟩
theorem eq_562 (r:List Int):∀ (m:Int),nz m r=m+r.sum:=by
 induction r with
 | nil=>exact fun m=>(Int.add_zero m).symm
 | cons x r ih=>intro m;rw[List.sum_cons,← Int.add_assoc];exact ih _
theorem eq_563 {m:Bool}:gb cx d nm (fZ .sum m) (.builtin "sum"):=gL.n fun A s σ as h₀ ov a u K Q E ρ env hx H ra t=>by
 obtain⟨c,ys,rfl,il,hx⟩:=eq_289 H.st ra hx
 refine sum_intListG H.a.hand il fun h' tk t' kp=>?_
 have e2:preSum (numAt ys) ys.size=nz 0 (ys.toList.map (·.1)):=by
  rw[preSum_eq,List.take_of_length_le (by simp),eq_562,Int.zero_add]
 obtain⟨st',f'⟩:=H.st.kp kp tk
 exact t _ σ _ as _ hx f' st' ⟨_,by rw[e2]⟩
end
end Mine
end
section
namespace Mine
open PySem PySem.W PySem.Calls PyProof.Rows PySem.Spec
theorem eq_564:typeLookup (.type "list") (Str.ofString "keys")=pure none:=by rw[typeLookup_type,builtinLookup_eq_fast];kernel_rfl
section
variable {prog:Program}{w:World}{A:Around}{E:VS}{s:Shared}
theorem eq_565 {a:Addr}{xs:Array Value}{k:Nat}{u:Tok}{Q:VS}(hx:s.heap.get? a=some {cls:=.type "list",data:=.seq xs k})(hA:A.handled=none)
  (h:∀ h' tk e,Heap.NewAttrErr s.heap h' e (.ref a) (Str.ofString "keys")→E (.ref e) {s with heap:=h',toks:=tk}) :
  wpAny (model prog w) A (getAttrBy (.ref a) (.str (Str.ofString "keys") u) false) Q E s:=by
 obtain⟨hp,g,d,tk,os⟩:=s
 have hT:∀ tk',(⟨hp,g,d,tk',os⟩:Shared).TypeIs (.ref a) "list" :=fun J=>⟨_,hx,rfl⟩
 have f1:=sub_AttributeError
 have f3:=F.slot_list_getattribute.lookup
 have f4:=F.slot_list_getattribute.bind (.ref a)
 have f5:=am_list_getattr_none
 unfold getAttrBy
 repeat (any_goals (first | assumption | exact hT _ | ((with_reducible show wpAny _ _ (call (Value.builtin "list.__getattribute__") _ _) _ _ _);refine call_meets F.slot_list_getattribute (hT _) am_entry_list_getattribute (F.args_list_getattribute_2 _ _) (meets_getattribute_miss_list a xs k #[] (Str.ofString "keys") _ eq_564 (by decide +kernel) (by decide +kernel)) ⟨hx,hA,fun h' tk' e hx'=>?_⟩) | wp_step))
 obtain⟨t',u',he⟩:=hx'.there
 show wpAny _ _ (getattributeRaised _ _ _ _ _ _ _) _ _ _
 unfold getattributeRaised
 repeat (any_goals (first | assumption | wp_step))
 exact h _ _ _ hx'
theorem eq_566 {a:Addr}{xs:Array Value}{k:Nat}{Q:Option Value→Shared→Prop}(hx:s.heap.get? a=some {cls:=.type "list",data:=.seq xs k})(hA:A.handled=none)
  (h:∀ h' tk,(∀ b o,s.heap.get? b=some o→h'.get? b=some o)→Q none {s with heap:=h',toks:=tk}) :
  wpAny (model prog w) A (getAttr? (.ref a) (Str.ofString "keys")) Q E s:=by
 obtain⟨hp,g,d,tk,os⟩:=s
 unfold getAttr? getAttrBy?
 refine wpAny_bind (wpAny_mkText (wpAny_bind (wpAny_attempt (eq_565 (s:=⟨hp,g,d,tk+1,os⟩) hx hA fun h' tk' e hx'=>?_))))
 obtain⟨t',u',he⟩:=hx'.there
 have f1:=sub_AttributeError
 repeat (any_goals (first | assumption | wp_step))
 exact h _ _ hx'.keeps
theorem eq_290:entryFor table "dict.update.loop" = some Builtin.«dict.update.loop»:=entryFor_of_tree (by kernel_rfl)
theorem eq_92:plainId "dict.update.loop" = true:=by decide +kernel
def ef (h:Heap):List Value→List (Str×Value)→Prop
 | [],kvs=>kvs=[]
 | v::r,kvs=>∃ ta k x kr t n,v=.ref ta∧kvs=(k,x)::kr∧h.get? ta=some {cls:=.type "tuple",data:=.seq #[.str k t,x] n}∧ef h r kr
theorem ef.mv {h h':Heap}(kp:∀ b o,o.cls=.type "tuple" →h.get? b=some o→h'.get? b=some o){vs:List Value}:∀ {kvs:List (Str×Value)},ef h vs kvs→ef h' vs kvs:=by
 induction vs with
 | nil=>exact id
 | cons v vs ih=>intro kvs r;obtain⟨ta,k,x,kr,t,n,e1,e2,ho,q⟩:=r;exact⟨ta,k,x,kr,t,n,e1,e2,kp _ _ rfl ho,ih q⟩
theorem eq_567 {d it l:Addr}{vs:Array Value}{R:Result→Shared→Prop}{res:Value}(hA:A.handled=none)(hdi:d≠it)(hli:l≠it)(hld:l≠d)  (rest:List Value):∀ (kvs acc:List (Str×Value)) (i:Nat)(u:Tok)(s:Shared),
  vs.toList.drop i=rest→i≤vs.size→s.heap.IsListIter it l i→s.heap.IsList l vs→s.heap.DictOf (PySem.strKind prog w) d acc→ef s.heap rest kvs→acc.length+kvs.length≤1000→
  (∀ h' tk,h'.DictOf (PySem.strKind prog w) d (merged acc kvs)→(∀ b o,b≠it→b≠d→s.heap.get? b=some o→h'.get? b=some o)→R (.ok (.ret res)) {s with heap:=h',toks:=tk})→
  codeAny (model prog w) A (.builtin "dict.update.loop" ⟨[.ref d,.ref it,.int i u,res],[]⟩) R s:=by
 induction rest with
 | nil=>
  intro kvs acc i u s hr hi hit hl hd hp hz h
  obtain rfl:kvs=[]:=hp
  have hi':vs.size≤i:=by
   have:=congrArg List.length hr
   rw[List.length_drop,Array.length_toList] at this
   exact Nat.le_of_sub_eq_zero this
  refine codeAny_builtin eq_290 ?_
  rw[Around.under_plainId eq_92 _]
  refine wpAny_bind (wpAny_pyNext_list_end (s:=s) hA hit hl (by simp[hi']) fun h' he=>?_)
  show wpAny _ _ (Builtin.Dict.addKeywords d [] >>= fun J=>ret res) _ _ _
  refine wpAny_bind (wpAny_pure (wpAny_pure ?_))
  refine h h' s.toks ?_ fun b o hb J e=>he b o hb e
  exact hd.extBut he hdi
 | cons v rest ih=>
  intro kvs acc i u s hr hi hit hl hd hp hz h
  obtain⟨ta,k,x,kr,t,n,rfl,rfl,ho,hp'⟩:=hp
  have hi':i<vs.size:=by
   have:=congrArg List.length hr
   rw[List.length_drop,Array.length_toList] at this
   exact Nat.lt_of_sub_pos (this▸Nat.succ_pos _)
  have hget:vs[i]?=some (.ref ta):=by
   have:=congrArg (fun l=>l[0]?) hr
   simpa using this
  refine codeAny_builtin eq_290 ?_
  rw[Around.under_plainId eq_92 _]
  refine wpAny_bind (wpAny_pyNext_list_item (s:=s) hit hl hget fun h1 hit1 hs1=>?_)
  have ne1:ta≠it:=fun e=>by
   obtain⟨o,ho',hc,_⟩:=hit
   rw[e,ho'] at ho;cases ho;have hc:Value.type "tuple" = Value.type "list_iterator" :=hc;exact absurd hc (by decide)
  have ne2:ta≠d:=fun e=>by
   obtain⟨o,es,ep,ho',hc,_⟩:=hd
   rw[e,ho'] at ho;cases ho;have hc:Value.type "tuple" = Value.type "dict" :=hc.1;exact absurd hc (by decide)
  have ho1:=rl hs1 ne1 ho
  have hd1:=hd.sameBut hs1 hdi
  have il1:h1.IsList l vs:=hl.extBut hs1.extBut hli
  dsimp only
  refine wpAny_bind (wpAny_holding ?_)
  refine wpAny_bind (wpAny_tryCatch ?_)
  unfold Builtin.Dict.pairItems
  refine wpAny_bind (wpAny_typeOf (T:="tuple") (s:={s with heap:=h1}) ⟨_,ho1,rfl⟩ ?_)
  rw[if_pos (by decide)]
  unfold seqItems?
  refine wpAny_bind (wpAny_bind (wpAny_load ho1 (wpAny_pure ?_)))
  refine wpAny_pure ?_
  show wpAny _ _ (holding [Value.str k t,x] (dictSet d (.str k t) x)) _ _ _
  refine wpAny_holding (wpAny_dictSet_pairs (s:={s with heap:=h1}) (strKind_is _ _ _ _) hd1 (fun h2 hd2 hs2=>?_) (by rw[sizeLine_eq];rw[List.length_cons] at hz;exact sj hz rfl))
  refine wpAny_pure ⟨plainId_quiet eq_92 _,?_⟩
  have e1:(rawInt ((i:Int)+1))=.int ((i+1:Nat):Int) 0:=rfl
  rw[e1]
  have kp2:∀ b o,b≠it→b≠d→s.heap.get? b=some o→h2.get? b=some o:=fun b o n1 n2 e=>rl hs2 n2 (rl hs1 n1 e)
  refine ih kr _ (i+1) 0 {s with heap:=h2,toks:=s.toks+1} ?_ hi' ?_ ?_ hd2 ?_ ?_ ?_
  ·rw[← List.drop_drop,hr];rfl
  ·exact hit1.extBut hs2.extBut (Ne.symm hdi)
  ·exact il1.extBut hs2.extBut hld
  ·refine hp'.mv fun b o hc e=>kp2 b o (fun q=>?_) (fun q=>?_) e
   ·obtain⟨o',ho',hc',_⟩:=hit
    rw[q,ho'] at e;cases e;rw[hc] at hc';exact absurd hc' (by decide)
   ·obtain⟨o',es,ep,ho',hc',_⟩:=hd
    rw[q,ho'] at e;cases e;have:=hc'.1;rw[hc] at this;exact absurd this (by decide)
  ·have:=stored_length_le acc k x
   rw[List.length_cons] at hz;exact re (Nat.add_le_add this hz) (by simp +arith only)
  ·intro h' tk hd' kp
   exact h h' tk hd' fun b o n1 n2 e=>kp b o n1 n2 (kp2 b o n1 n2 e)
theorem eq_568 {l:Addr}{vs:List Value}{kvs:List (Str×Value)}{Q:VS}(hA:A.handled=none)(hl:s.heap.PlainList l vs.toArray)(hp:ef s.heap vs kvs)(hz:kvs.length≤1000)
  (h:∀ h' tk,h'.DictOf (PySem.strKind prog w) s.heap.objs.size (merged [] kvs)→(∀ b o,s.heap.get? b=some o→h'.get? b=some o)→Q (.ref s.heap.objs.size) {s with heap:=h',toks:=tk}) :
  wpAny (model prog w) A (call (.type "dict") [.ref l]) Q E s:=by
 refine callType_codes (Q₁:=fun obj s₁=>obj=.ref s.heap.objs.size∧s₁={s with heap:=s.heap.push {cls:=.type "dict",data:=.dict #[]}}) F.kt_called_dict (F.kt_typeCall_dict_1 _) F.entry_dict_init (kt_code_dict_new _ ⟨rfl,rfl⟩) ?_
 rintro obj s₁ ⟨rfl,rfl⟩
 have hnew:(s.heap.push {cls:=.type "dict",data:=.dict #[]}).DictOf (PySem.strKind prog w) s.heap.objs.size []:=Heap.DictOf.new s.heap
 obtain⟨n,ho⟩:=hl
 have ho':(s.heap.push {cls:=.type "dict",data:=.dict #[]}).get? l=_:=Heap.get?_push_of_some _ ho
 refine⟨hnew.typeIs,F.args_dict_init_2 _ _,?_⟩
 unfold Builtin.«dict.__init__»
 refine wpAny_bind ?_
 unfold Builtin.Dict.selfAndRest
 refine wpAny_bind (wpAny_notOrdered_dict hnew.typeIs ?_)
 show wpAny _ _ (pure (s.heap.objs.size,[Value.ref l])) _ _ _
 refine wpAny_pure ?_
 show wpAny _ _ (Builtin.Dict.updateFrom "dict.__init__" s.heap.objs.size (.ref l) [] .none) _ _ _
 unfold Builtin.Dict.updateFrom
 refine wpAny_bind (wpAny_typeOf (T:="list") ⟨_,ho',rfl⟩ ?_)
 rw[if_pos (by decide)]
 refine wpAny_bind (eq_566 (s:={s with heap:=_}) ho' hA fun h1 tk kp1=>?_)
 have ho1:=kp1 _ _ ho'
 have il1:h1.IsList l vs.toArray:=⟨_,ho1,rfl,_,rfl⟩
 obtain⟨od,esd,epd,hgd,rd⟩:=hnew
 have hd1:h1.DictOf (PySem.strKind prog w) s.heap.objs.size []:=⟨od,esd,epd,kp1 _ _ hgd,rd⟩
 refine wpAny_bind (wpAny_rule ?_)
 refine wpAny_bind (wpAny_pyIter_list (s:={s with heap:=h1,toks:=tk}) il1 ?_)
 refine wpAny_pure ⟨plainId_quiet eq_92 _,?_⟩
 have e1:(rawInt (0:Int))=.int ((0:Nat):Int) 0:=rfl
 rw[e1]
 have lt1:s.heap.objs.size<h1.objs.size:=Heap.lt_size (kp1 _ _ hgd)
 have lt2:l<s.heap.objs.size:=Heap.lt_size ho
 have kp2:∀ b o,s.heap.get? b=some o→(h1.push {cls:=.type "list_iterator",data:=.fields #[.ref l,.int 0 0]}).get? b=some o:=fun b o e=>Heap.get?_push_of_some _ (kp1 _ _ (Heap.get?_push_of_some _ e))
 refine eq_567 (A:=A.in1) (d:=s.heap.objs.size) (it:=h1.objs.size) (l:=l) (vs:=vs.toArray) hA (Nat.ne_of_lt lt1) (Nat.ne_of_lt (Nat.lt_trans lt2 lt1)) (Nat.ne_of_lt lt2) vs kvs [] 0 0 {s with heap:=h1.push {cls:=.type "list_iterator",data:=.fields #[.ref l,.int 0 0]},toks:=tk} (by simp) (Nat.zero_le _)
  ⟨_,Heap.get?_push_size _ rfl,rfl,rfl⟩ (il1.push _) (hd1.push _) (hp.mv fun b o J e=>kp2 b o e) (by simpa using hz) fun h' tk' hd' kp'=>?_
 exact⟨rfl,h h' tk' hd' fun b o e=>kp' b o (fun q=>rh (kp1 _ _ (Heap.get?_push_of_some _ e)) (rp h1) q) (fun q=>rh e (rp s.heap) q) (kp2 b o e)⟩
end
section
variable {cx:Cx}{Φ:b9}{d:Nat}{nm:List (Str×NameKind)}{ρ:aN}{σ:ak}{A:Around}{env:Env}{h₀:Heap}{ov nw:List Addr}{as as' as'':List (Addr×Addr)}{s s' s'':Shared}
theorem eq_569 {xs:List D}{p:Nat×D}(h:nR xs=some p):xs=[.str p.1,p.2]:=by
 cases xs with
 | nil=>cases h
 | cons a r=>cases r with
  | nil=>cases h
  | cons v r=>cases r with
   | nil=>
    obtain⟨k,e,rfl⟩:=Option.map_eq_some_iff.mp h
    rw[eq_86 e]
   | cons _ _=>cases h
theorem eq_570 {h:Heap}{F:AP}{xs:List D}:∀ {vs:List Value}{q:List Nat×List PV},DReps h F xs vs→kG (xs.map .p)=some q→∃ kvs,ef h vs kvs∧dt cx h F as q.1 q.2 kvs:=by
 induction xs with
 | nil=>intro vs q r hq;cases r;cases hq;exact⟨[],rfl,rfl,rfl⟩
 | cons x xs ih=>
  intro vs q r hq
  obtain⟨v,r,rfl,a,b⟩:=r
  obtain⟨ys,e1,hq⟩:=Option.bind_eq_some_iff.mp hq
  obtain⟨p,e2,hq⟩:=Option.bind_eq_some_iff.mp hq
  obtain⟨q',hq',rfl⟩:=Option.map_eq_some_iff.mp hq
  cases eq_142 e1
  cases eq_569 e2
  obtain⟨ta,us,rfl,fa,⟨n,ho⟩,rs⟩:=a
  obtain⟨u1,t1,rfl,⟨sk,tk,rfl⟩,u2,t2,rfl,a2,e2⟩:=rs
  cases e2
  obtain⟨kvs,pp,kr⟩:=ih b hq'
  exact⟨(aJ p.1,u2)::kvs,⟨ta,aJ p.1,u2,kvs,tk,n,rfl,rfl,ho,pp⟩,.p p.2,q'.2,u2,kvs,rfl,rfl,sk,a2,kr⟩
theorem eq_571 {m:Bool}:gb cx d nm (fZ .dictOf m) (.type "dict"):=gL.n fun A s σ as h₀ ov a u K Q E ρ env hx0 H ra t=>by
 obtain⟨xs,e,hx1⟩:=rf hx0
 obtain⟨q,hq,hx2⟩:=rf hx1
 obtain⟨hc,hx⟩:=rt hx2
 cases eq_143 e
 obtain⟨h1,h2⟩:=Bool.and_eq_true_iff.mp hc
 have nd:=eq_91 h1
 obtain⟨c,vs,rfl,fc,hl,rs⟩:=ra
 obtain⟨kvs,pp,kr⟩:=eq_570 (cx:=cx) (as:=as) rs hq
 refine eq_568 H.a.hand hl pp (by rw[kr.len];exact Nat.le_of_ble_eq_true h2) fun h' tk hd kp=>?_
 obtain⟨st',f'⟩:=H.st.kp kp tk
 rw[eq_149 (by rw[List.nil_append,kr.keys.1];exact eq_150 kr.keys.2 nd),List.nil_append] at hd
 exact t _ σ _ as _ hx f' st' ⟨_,valueAt kvs,rfl,H.st.fresh (rp _),⟨kvs,hd,kr.len,fun J=>rfl,H.newSys⟩,(kr.mv f'.mv (cB.refl _)).freps nd fun J=>rfl⟩
theorem eq_572 {m:Bool}:gb cx d nm (fZ .dictCopy m) (.type "dict"):=gL.n fun A s σ as h₀ ov a u K Q E ρ env hx H ra t=>by
 obtain⟨dd,e,hx⟩:=rf hx
 obtain⟨hz,hx⟩:=rt hx
 have hz:=Nat.le_of_ble_eq_true hz
 obtain⟨c,f,rfl,⟨kvs,hd,hn,hf,hsys⟩,fr⟩:=eq_47 (ks:=dd.1) (vs:=dd.2) H.st ra e
 refine kt_call_dict hsys hd (by rw[sizeLine_eq];exact u6 hn hz rfl) fun h' hd' hs'=>?_
 have kp:∀ b o,s.heap.get? b=some o→h'.get? b=some o:=fun b o e=>rl hs' (rh e (rp _)) (Heap.get?_push_of_some _ e)
 have mv:Mv s.heap h' (Fz ov as) (Fz ov (as++[(s.heap.objs.size,s.heap.objs.size)])):=fun b o f e=>⟨⟨f.1,sP f.2 fun l hl=>by
  rw[mem_singleton.mp hl];exact⟨rh e (rp _),rh e (rp _)⟩⟩,kp _ _ e⟩
 obtain⟨st',f'⟩:=H.st.add (l:=(s.heap.objs.size,s.heap.objs.size)) (c:=.dict dd.1 dd.2) kp (rp _) (rp _) ⟨rfl,f,⟨kvs,hd',hn,hf,H.newSys⟩,fr.mv mv (cB.app _ _)⟩ s.toks
 exact t _ _ _ _ _ hx f' st' ⟨(s.heap.objs.size,s.heap.objs.size),by rw[← H.st.len];simp,rfl⟩
end
theorem eq_573 {h:Heap}{a:Addr}{vs:List Value}{out:Array Value}{b:Addr}{o:Obj}(hb:b≠a)(e:h.get? b=some o):(sortedHeap h a vs out).get? b=some o:=by
 unfold sortedHeap
 rw[Heap.get?_update_ne _ _ _ _ hb]
 refine Heap.get?_push_of_some _ (Heap.get?_push_of_some _ ?_)
 rw[Heap.get?_update_ne _ _ _ _ hb]
 exact e
theorem eq_574 {h:Heap}{a:Addr}{vs:List Value}{n:Nat}{out:Array Value}(e:h.get? a=some (seqObj "list" vs.toArray n)):(sortedHeap h a vs out).PlainList a out:=by
 have h1:=get?_update_seq e (fun J=>#[])
 have h2:=Heap.get?_push_of_some (seqObj "list" #[] 0) (Heap.get?_push_of_some (seqObj "tuple" vs.toArray 0) h1)
 exact⟨_,get?_update_seq h2 (fun J=>out)⟩
section
variable {cx:Cx}{Φ:b9}{d:Nat}{nm:List (Str×NameKind)}{ρ:aN}{σ:ak}{A:Around}{env:Env}{h₀:Heap}{ov nw:List Addr}{as as' as'':List (Addr×Addr)}{s s' s'':Shared}
theorem eq_575 {us:List Value}{kvs:List (Str×Value)}(hz:kvs.length≤1)(hl:us.length=kvs.length)(hg:∀ (j:Nat)(v:Value),us[j]?=some v→∃ k x t,kvs[j]?=some (k,x)∧v=.str k t):∃ ss,StrsAre us ss∧∃ ts:List Tok,ts.length=kvs.length∧us=(kvs.zip ts).map fun p=>.str p.1.1 p.2:=by
 cases kvs with
 | nil=>exact(List.eq_nil_of_length_eq_zero hl)▸⟨[],.nil,[],rfl,rfl⟩
 | cons p kr=>
  cases kr with
  | cons _ _=>exact absurd hz (by simp)
  | nil=>
   obtain⟨v,rfl⟩:=List.length_eq_one_iff.mp hl
   obtain⟨k,x,t,e1,rfl⟩:=hg 0 v rfl
   cases e1
   exact⟨[k],.cons _ _ .nil,[t],rfl,rfl⟩
theorem eq_576 {α β:Type}{xs:List (α×β)}{us:List β}(hu:us.length≤1)(p:(xs.map (·.2)).Perm us):xs.map (·.2)=us:=by
 cases us with
 | nil=>exact List.perm_nil.mp p
 | cons v r=>cases r with
  | nil=>exact List.perm_singleton.mp p
  | cons _ _=>exact absurd hu (by simp)
theorem eq_577 {us:List Value}(hu:us.length≤1):(pairsOf us).toList.map (·.2)=us:=by
 rw[pairsOf_toList]
 cases us with
 | nil=>rfl
 | cons v r=>cases r with
  | nil=>rfl
  | cons _ _=>exact absurd hu (by simp)
set_option tactic.hygienic true in
theorem eq_291 (hA:A.handled=none){c:Addr}{kvs:List (Str×Value)}(hsys:(c==sysModules)=false)(hd:s.heap.DictOf (PySem.strKind cx.prog cx.w) c kvs)(hz:kvs.length≤1) {Q E}
  (h:∀ h' a tk us,(∀ b o,s.heap.get? b=some o→h'.get? b=some o)→s.heap.get? a=none→h'.PlainList a (List.toArray us)→(∃ ts:List Tok,ts.length=kvs.length∧us=(kvs.zip ts).map fun p=>.str p.1.1 p.2)→Q (.ref a) {s with heap:=h',toks:=tk}) :
  wpAny (model cx.prog cx.w) A (call (.builtin "sorted") [.ref c]) Q E s:=by
 obtain⟨ep,hat⟩:=hd.dictAt
 refine Calls.call_function_entry kind_sorted plain_sorted entry_sorted (args_sorted1 _) ?_
 refine wpAny_bind (m:=checkCount "sorted" 1 1 _) (wpAny_pure ?_)
 refine wpAny_bind (kdu_collect (A:=A.in1) (kdl_dict (knd:=PySem.strKind cx.prog cx.w) (kvs:=kvs) (ep:=ep) hsys) hA hat (by rw[sizeLine_eq];exact u1 hz rfl) fun h' tk acc hk hacc=>?_)
 have hl:acc.toList.length=kvs.length:=by rw[Array.length_toList];exact hacc.1
 refine wpAny_bind (wpAny_newList ?_ (by rw[hl,sizeLine_eq];exact u1 hz rfl))
 have hg:∀ (j:Nat)(v:Value),acc.toList[j]?=some v→∃ k x t,kvs[j]?=some (k,x)∧v=.str k t:=fun j v e=>by
  obtain⟨k,x,e1,e2⟩:=hacc.2 j v (by rw[← Array.getElem?_toList];exact e)
  cases v<;>first | (exact absurd e2 Bool.false_ne_true) | skip
  rename_i y t
  have:y=k:=by
   have e2:(decide (y=k))=true:=e2
   simpa using e2
  exact⟨k,x,t,e1,by rw[this]⟩
 generalize acc.toList=us at hl hg
 have hu:us.length≤1:=by rw[hl];exact hz
 obtain⟨ss,hS,hts⟩:=eq_575 hz hl hg
 have hoL:(h'.push {cls:=.type "list",data:=.seq us.toArray}).get? h'.objs.size=some (seqObj "list" us.toArray 0):=Heap.get?_push_size _ rfl
 refine wpAny_bind (wpAny_holding (wpAny_call_entry slot_list_sort ⟨_,hoL,rfl⟩ entry_list_sort (list_sort_treeK strKind_oneLt hoL hS.keysOf (fun v₁ v₂ rest e=>by rw[e] at hu;simp at hu) (Nat.lt_of_le_of_lt hu (by decide)) fun st' a1 a2=>⟨_,rfl,?_⟩) (args_list_sort _)))
 refine wpAny_pure ⟨_,rfl,?_⟩
 have eout:(arrOf st').map (·.2)=us.toArray:=by
  apply Array.ext'
  rw[Array.toList_map]
  exact eq_576 hu (((Array.perm_iff_toList_perm.mp a1).map _).trans (.of_eq (eq_577 hu)))
 rw[eout]
 have hn:s.heap.get? h'.objs.size=none:=by
  cases q:s.heap.get? h'.objs.size with
  | none=>rfl
  | some o=>exact absurd (hk _ _ q) (by rw[rp];exact fun e=>nomatch e)
 exact h _ _ _ us (fun b o e=>eq_573 (rh (hk _ _ e) (rp h')) (Heap.get?_push_of_some _ (hk _ _ e))) hn (eq_574 hoL) hts
theorem eq_578 {m:Bool}:gb cx d nm (fZ .keys m) (.builtin "sorted"):=gL.n fun A s σ as h₀ ov a u K Q E ρ env hx0 H ra t=>by
 obtain⟨dd,e,hx1⟩:=rf hx0
 obtain⟨x,ex,hx⟩:=rf (k:=fun x=>K (.p x) σ) hx1
 clear hx0 hx1
 obtain⟨c,f,rfl,⟨kvs,hd,hn,hf,hsys⟩,fr⟩:=eq_47 (ks:=dd.1) (vs:=dd.2) H.st ra e
 generalize dd.1=ks at ex hn fr
 generalize dd.2=ws at fr
 cases ks with
 | nil=>
  cases ex
  refine eq_291 H.a.hand hsys hd (by rw[hn];exact Nat.zero_le _) fun h' a tk us kp na il hts=>?_
  obtain⟨ts,_,rfl⟩:=hts
  have e2:kvs=[]:=List.eq_nil_of_length_eq_zero hn
  subst e2
  obtain⟨st',f'⟩:=H.st.kp kp tk
  exact t _ σ _ as _ hx f' st' ⟨a,[],rfl,H.st.fresh na,il,rfl⟩
 | cons k r=>
  cases r with
  | cons _ _=>cases ex
  | nil=>
   cases ex
   cases ws with
   | nil=>exact fr.elim
   | cons w ws=>
    obtain⟨sk,⟨u,e3,_⟩,_⟩:=fr
    refine eq_291 H.a.hand hsys hd (by rw[hn];exact Nat.le_refl _) fun h' a tk us kp na il hts=>?_
    obtain⟨ts,hl,rfl⟩:=hts
    obtain⟨st',f'⟩:=H.st.kp kp tk
    cases kvs with
    | nil=>cases hn
    | cons p kr=>
     obtain rfl:kr=[]:=List.eq_nil_of_length_eq_zero (Nat.succ.inj hn)
     cases ts with
     | nil=>cases hl
     | cons t1 ts=>
      rw[← hf] at e3
      have ey:p.1=aJ k:=by
       by_cases q:p.1=aJ k
       ·exact q
       ·simp[valueAt,q] at e3
      exact t _ σ _ as _ hx f' st' ⟨a,[.str p.1 t1],rfl,H.st.fresh na,il,_,_,rfl,⟨sk,t1,by rw[ey]⟩,rfl⟩
end
end Mine
end
section
set_option genSizeOf false
set_option genCtorIdx false
set_option genInjectivity false
namespace Mine
open PySem PySem.W PySem.Calls PyProof.Rows PySem.Spec
section
variable {cx:Cx}{Φ:b9}{d:Nat}{nm:List (Str×NameKind)}{ρ:aN}{σ:ak}{A:Around}{env:Env}{h₀:Heap}{ov nw:List Addr}{as as' as'':List (Addr×Addr)}{s s' s'':Shared}
structure BmeAt (cx:Cx)(T:String)(n:Str)(id:String):Prop where
 pa:PlainAttrs T
 sl:Slot T n id
 ty:typeOf (.builtin id)=pure (.type "method_descriptor")
def nG (s:Shared)(v:Value)(T:String):Prop:=s.TypeIs v T∧∀ a,v=.ref a→∃ o,s.heap.get? a=some o∧o.dict=none
def kK (cx:Cx) (d:Nat)(nm:List (Str×NameKind))(b:Bme)(T id:String):Prop:=
 (∀ s σ as h₀ ov pv v,lQ b pv σ=true→St cx h₀ ov as σ s.heap→az cx s.heap (Fz ov as) as pv v→nG s v T)∧
 ∀ A s σ as h₀ ov pv v pvs vs K Q E ρ env,oQ b pv pvs σ K→Here cx d nm ρ σ A env h₀ ov as s→az cx s.heap (Fz ov as) as pv v→VReps cx s.heap (Fz ov as) as pvs vs→di cx h₀ ov as s K Q→wpAny (model cx.prog cx.w) A (call (.builtin id) (v::vs)) Q E s
theorem eq_21 {b:Bme}{y x:T}{o:Expr}{Ty id:String}{n:Str}{apos pos:Pos}{es:List Expr}(B:BmeAt cx Ty n id)(R:kK cx d nm b Ty id)(hb:du o=true)(hs:bp es=true)(hn:es.length<30)(hline:(apos.endLine==pos.line)=true)
  (h1:SE cx Φ d nm y o)(h:ly cx Φ d nm x es):SE cx Φ d nm (.bme b y x) (.Call (.Attribute o n apos) es [] pos):=fun ρ σ K A env h₀ ov as s Q E hx H t=>by
 refine eq_286 (eq_153 hb) hs hn hline ?_
 refine h1 ρ σ _ A env h₀ ov as s _ E hx H fun pv σ1 v as1 s1 k1 f1 st1 r1=>?_
 obtain⟨ho,k1⟩:=rt k1
 obtain⟨hT,hd⟩:=R.1 _ _ _ _ _ _ _ ho st1 r1
 intro pl
 refine getMethod_builtin hT B.pa B.sl B.ty hd ?_
 refine eq_20 (f:=.builtin id) rfl hs h k1 (H.next f1 st1) fun pvs σ' vs as' s' k f st r=>?_
 exact R.2 _ _ _ _ _ _ _ _ _ _ _ _ _ _ _ k (H.next (f1.trans f) st) (f.vrep r1) r (t.fw (f1.trans f))
theorem eq_155 {s:Shared}{σ:ak}{as:List (Addr×Addr)}{h₀:Heap}{ov:List Addr}{pv:PV}{v:Value}(h:oP pv σ=true)(st:St cx h₀ ov as σ s.heap)(r:az cx s.heap (Fz ov as) as pv v):nG s v "list" :=by
 cases pv with
 | ref i=>
  have:∃ xs,σ[i]?=some (.list xs):=by
   replace h:(match σ[i]? with
    | some (.list _)=>true
    | _=>false)=true:=h
   cases q:σ[i]? with
   | none=>rw[q] at h;cases h
   | some c=>cases c with
    | list xs=>exact⟨xs,rfl⟩
    | _=>rw[q] at h;cases h
  obtain⟨xs,hx⟩:=this
  obtain⟨l,hl,rfl⟩:=r
  obtain⟨_,vs,⟨n,ho⟩,_⟩:=st.cellOf hl hx
  exact⟨⟨_,ho,rfl⟩,fun a e=>by cases e;exact⟨_,ho,rfl⟩⟩
 | _=>cases h
theorem eq_292 {s:Shared}{hp:Heap}{F:AP}{as:List (Addr×Addr)}{pv:PV}{v:Value}(h:(mS pv).isSome=true)(r:az cx hp F as pv v):nG s v "str" :=by
 obtain⟨x,e⟩:=Option.isSome_iff_exists.mp h
 cases eq_2 e
 obtain⟨_,t,rfl⟩:=r
 exact⟨typeIs_str _ _ _,fun a e=>nomatch e⟩
theorem eq_579 {s:Shared}{σ:ak}{as:List (Addr×Addr)}{h₀:Heap}{ov:List Addr}{pv:PV}{v:Value}(h:(bC σ pv).isSome=true)(st:St cx h₀ ov as σ s.heap)(r:az cx s.heap (Fz ov as) as pv v):nG s v "dict" :=by
 obtain⟨⟨ks,vs⟩,e⟩:=Option.isSome_iff_exists.mp h
 obtain⟨a,f,rfl,⟨kvs,hd,_⟩,_⟩:=eq_47 st r e
 refine⟨hd.typeIs,fun b e=>?_⟩
 cases e
 obtain⟨o,es,ep,ho,hc,_⟩:=hd
 exact⟨o,ho,hc.2.1⟩
theorem eq_156 {a:PV}{k:Nat→List PV→Prop}(h:nB a σ k):∃ i xs,a=.ref i∧σ[i]?=some (.list xs)∧k i xs:=by
 cases a with
 | ref i=>obtain⟨xs,e,h⟩:=eq_254 h;exact⟨i,xs,rfl,e,h⟩
 | _=>exact h.elim
theorem eq_580 {vs:List PV}{k:Prop}(h:oO vs k):vs=[]∧k:=by
 cases vs with
 | nil=>exact⟨rfl,h⟩
 | cons _ _=>exact h.elim
theorem eq_93 (st:St cx h₀ ov as σ s.heap){i:Nat}{l:Addr×Addr}(hl:as[i]?=some l)(h2:l.2=l.1){h':Heap}{ws:List PV}{us:List Value}(il:h'.PlainList l.1 (List.toArray us))(hs:Heap.SameBut l.1 s.heap h')(r:VReps cx s.heap (Fz ov as) as ws us) (tk:Nat) :
  St cx h₀ ov as (σ.set i (.list ws)) h'∧Fw as as s {s with heap:=h',toks:=tk}:=by
 refine st.set (c:=.list ws) hl (fun b x n1 J e=>rl hs n1 e) (fun b x e=>?_) (fun mv=>⟨h2,us,il,VReps.mv mv (cB.refl _) r⟩) tk
 by_cases q:b=l.1
 ·rw[q];obtain⟨n,ho⟩:=il;exact⟨_,ho⟩
 ·exact⟨x,rl hs q e⟩
theorem VReps.dropLast {h:Heap}{F:AP}:∀ {xs:List PV}{vs:List Value},VReps cx h F as xs vs→VReps cx h F as xs.dropLast vs.dropLast:=fun {xs vs} r=>by
 rw[List.dropLast_eq_take,List.dropLast_eq_take,r.len]
 exact r.take
theorem eq_581 {h:Heap}{F:AP}{xs:List PV}{vs:List Value}{v:PV}(r:VReps cx h F as xs vs)(e:xs.getLast?=some v):∃ u,vs[vs.length - 1]?=some u∧az cx h F as v u:=by
 rw[List.getLast?_eq_getElem?] at e
 rw[r.len]
 exact eq_4 r e
theorem eq_582:kK cx d nm .pop "list" "list.pop" :=⟨fun J J J J J J J=>eq_155,fun A s σ as h₀ ov pv v pvs vs K Q E ρ env hx H r rs t=>by
 obtain⟨rfl,hx⟩:=eq_580 hx
 obtain⟨i,xs,rfl,hc,hx⟩:=eq_156 hx
 obtain⟨w,hw,hx⟩:=rf hx
 obtain⟨hz,hx⟩:=rt hx
 cases rs
 obtain⟨l,hl,rfl⟩:=r
 obtain⟨h2,us,⟨k,ho⟩,rr⟩:=H.st.cellOf hl hc
 obtain⟨u,hu,ru⟩:=eq_581 rr hw
 refine call_meets F.slot_list_pop ⟨_,ho,rfl⟩ F.entry_list_pop (F.args_list_pop_1 _) (MeetsSeq.list_pop_last l.1 us.toArray k u (by rw[size_toArray,List.getElem?_toArray];exact hu) (by rw[size_toArray,rr.len,sizeLine_eq];exact Nat.le_trans (Nat.le_of_ble_eq_true hz) (by decide))) ⟨ho,?_⟩
 have e1:us.toArray.eraseIdxIfInBounds (us.toArray.size - 1)=us.dropLast.toArray:=by
  rw[List.eraseIdxIfInBounds_toArray,size_toArray,List.dropLast_eq_take]
  congr 1
  have:us.length≠0:=fun q=>by rw[List.eq_nil_of_length_eq_zero q] at hu;cases hu
  rw[List.eraseIdx_eq_take_drop_succ,List.drop_of_length_le (Nat.sub_le_iff_le_add.mp (Nat.le_refl _)),append_nil]
 have hp:=get?_update_seq ho (fun xs=>xs.eraseIdxIfInBounds (us.toArray.size - 1))
 rw[e1] at hp
 obtain⟨st',f'⟩:=eq_93 H.st hl h2 (ws:=xs.dropLast) ⟨_,hp⟩ (Heap.SameBut.update ..) rr.dropLast s.toks
 exact t _ _ _ as _ hx f' st' (f'.vrep ru)⟩
theorem eq_583:kK cx d nm .append "list" "list.append" :=⟨fun J J J J J J J=>eq_155,fun A s σ as h₀ ov pv v pvs vs K Q E ρ env hx H r rs t=>by
 obtain⟨w,rfl,hx⟩:=sY hx
 obtain⟨i,xs,rfl,hc,hx⟩:=eq_156 hx
 obtain⟨hz,hx⟩:=rt hx
 obtain⟨u,rfl,ru⟩:=rs.one
 obtain⟨l,hl,rfl⟩:=r
 obtain⟨h2,us,hp,rr⟩:=H.st.cellOf hl hc
 refine wpAny_list_append_plain hp (fun h' il hs=>?_) (by rw[size_toArray,rr.len,sizeLine_eq];exact Nat.le_trans (Nat.le_of_ble_eq_true hz) (by decide))
 rw[List.push_toArray] at il
 obtain⟨st',f'⟩:=eq_93 H.st hl h2 (ws:=xs++[w]) il hs (VReps.app (show VReps cx s.heap (Fz ov as) as [w] [u] from⟨u,[],rfl,ru,rfl⟩) rr) s.toks
 exact t _ _ _ as _ hx f' st' rfl⟩
theorem eq_293 {us ws:List Value}(hz:us.length+ws.length≤100000):¬(!us.toArray.isEmpty&&Builtin.List.listTooLong (us.toArray.size+ws.toArray.size))=true:=by
 have:Builtin.List.listTooLong (us.toArray.size+ws.toArray.size)=false:=by
  rw[size_toArray,size_toArray]
  simp[Builtin.List.listTooLong,sizeLine];exact u1 hz rfl
 rw[this];simp
theorem eq_584:kK cx d nm .extend "list" "list.extend" :=⟨fun J J J J J J J=>eq_155,fun A s σ as h₀ ov pv v pvs vs K Q E ρ env hx0 H r rs t=>by
 obtain⟨w,rfl,hx1⟩:=sY hx0
 obtain⟨i,xs,rfl,hc,hx2⟩:=eq_156 hx1
 obtain⟨y,e1,hx3⟩:=rf hx2
 obtain⟨ys,e2,hx4⟩:=rf hx3
 obtain⟨hz,hx⟩:=rt hx4
 clear hx0 hx1 hx2 hx3 hx4
 cases eq_1 e1
 obtain⟨u,rfl,ru⟩:=rs.one
 have hz:=Nat.le_of_ble_eq_true hz
 obtain⟨l,hl,rfl⟩:=r
 obtain⟨h2,us,⟨k,ho⟩,rr⟩:=H.st.cellOf hl hc
 have fin:∀ ws,DReps s.heap (Fz ov as) ys ws→∀ h,h=s.heap.update l.1 (Obj.mapSeq fun x=>x++ws.toArray)→Q .none {s with heap:=h}:=fun ws rw h e=>by
  have hp:=get?_update_seq ho (fun x=>x++ws.toArray)
  rw[List.append_toArray] at hp
  subst e
  obtain⟨st',f'⟩:=eq_93 H.st hl h2 (ws:=xs++ys.map .p) ⟨_,hp⟩ (Heap.SameBut.update ..) (VReps.app (sa rw) rr) s.toks
  exact t _ _ _ as _ hx f' st' rfl
 have big:∀ {ws:List Value},DReps s.heap (Fz ov as) ys ws→us.length+ws.length≤100000:=fun rw=>by rw[rr.len,rw.len];exact hz
 rcases eq_262 e2 with rfl | rfl
 ·obtain⟨b,ws,rfl,fb,⟨k2,ho2⟩,rw⟩:=ru
  have hz':=big rw
  exact call_meets F.slot_list_extend ⟨_,ho,rfl⟩ F.entry_list_extend (F.args_list_extend_2 _ _) (AutoSeq1.list_extend_list_tuple_0 l.1 us.toArray k b ws.toArray k2 (eq_293 hz') (by rw[size_toArray,sizeLine_eq];exact sj hz' rfl) (by rw[size_toArray,size_toArray,sizeLine_eq];exact u1 hz' rfl)) ⟨ho,ho2,fin ws rw _ rfl⟩
 ·obtain⟨b,ws,rfl,fb,⟨k2,ho2⟩,rw⟩:=ru
  have hz':=big rw
  exact call_meets F.slot_list_extend ⟨_,ho,rfl⟩ F.entry_list_extend (F.args_list_extend_2 _ _) (AutoSeq1.list_extend_list_list_0 l.1 us.toArray k b ws.toArray k2 (eq_293 hz') (by rw[size_toArray,sizeLine_eq];exact sj hz' rfl) (by rw[size_toArray,size_toArray,sizeLine_eq];exact u1 hz' rfl)) ⟨ho,ho2,fin ws rw _ rfl⟩⟩
end
end Mine
end
section
namespace Mine
open PySem PySem.W PySem.Calls PyProof.Rows PySem.Spec
theorem eq_294 {k:Nat}:∀ {ks:List Nat}{vs:List PV},ks.length=vs.length→cJ k ks vs=none→ks.any (·==k)=false:=fun {ks vs} hl h=>by
 rw[← eq_140 hl,h];rfl
theorem eq_585 (sep:Nat)(ns:List Nat):Str.join (aJ sep) (ns.map aJ)=⟨(dq sep ns).toArray⟩:=by
 induction ns with
 | nil=>rfl
 | cons a r ih=>cases r with
  | nil=>rfl
  | cons b r=>
   show aJ a++aJ sep++Str.join (aJ sep) ((b::r).map aJ)=_
   rw[ih,eq_276]
   show Str.append _ _=_
   unfold Str.append
   rw[List.append_toArray]
   rfl
theorem eq_586 (sep:Nat)(hs:bc sep=true)(ns:List Nat)(h:∀ n∈ns,bc n=true):((dq sep ns).all (·<0x110000))=true:=by
 induction ns with
 | nil=>rfl
 | cons a r ih=>cases r with
  | nil=>exact eq_50 (h a mem_cons_self)
  | cons b r=>
   show ((bx a++bx sep++dq sep (b::r)).all (·<0x110000))=true
   rw[List.all_append,List.all_append,eq_50 (h a mem_cons_self),eq_50 hs,ih fun n hn=>h n (mem_cons_of_mem _ hn)];rfl
theorem eq_587 (sep:Nat)(ns:List Nat):∀ (z:Nat),(ns.map aJ).foldl (fun a x=>a+x.length+(aJ sep).length) z=z+dZ sep ns:=by
 induction ns with
 | nil=>exact fun z=>rfl
 | cons a r ih=>
  intro z
  rw[List.map_cons,List.foldl_cons,ih,eq_88,eq_88,Nat.add_assoc,Nat.add_assoc,← Nat.add_assoc (bx a).length];rfl
theorem eq_588 {sep:Nat}{ns:List Nat}(h:dZ sep ns≤100000):JoinOk (aJ sep) (ns.map aJ)=true:=by
 unfold JoinOk
 have:(ns.map aJ).toArray.foldl (·+·.length+(aJ sep).length) 0=dZ sep ns:=by
  rw[List.foldl_toArray,eq_587,Nat.zero_add]
 rw[this]
 simp[Builtin.Str.tooLong,sizeLine];exact u1 h rfl
section
variable {cx:Cx}{Φ:b9}{d:Nat}{nm:List (Str×NameKind)}{ρ:aN}{σ:ak}{A:Around}{env:Env}{h₀:Heap}{ov nw:List Addr}{as as' as'':List (Addr×Addr)}{s s' s'':Shared}
theorem eq_589:kK cx d nm .get "dict" "dict.get" :=⟨fun J J J J J J J=>eq_579,fun A s σ as h₀ ov pv v pvs vs K Q E ρ env hx0 H r rs t=>by
 obtain⟨ka,dflt,rfl,hx1⟩:=eq_154 hx0
 obtain⟨k,e1,hx2⟩:=rf hx1
 obtain⟨dd,e,hx⟩:=rf hx2
 clear hx0 hx1 hx2
 cases eq_2 e1
 obtain⟨a1,a2,rfl,r1,r2⟩:=rs.two
 obtain⟨tk,c,f,rfl,rfl,hd,fr,hsome,sk⟩:=eq_141 (ks:=dd.1) (vs:=dd.2) H.st r1 r e
 refine(call_meetsIn F.slot_dict_get hd.map.typeIs F.entry_dict_get (F.args_dict_get_3 _ _ _) (meets_dict_get_default (PySem.strKind cx.prog cx.w) c (strKind_is _ _ _ _) hd.sys a2) ⟨f,hd.map,?_⟩)
 show Q ((f (aJ k)).getD a2) _
 cases hw:cJ k dd.1 dd.2 with
 | some w=>
  rw[hw] at hx
  obtain⟨u,hu,ru⟩:=eq_46 sk fr hw
  rw[hu]
  exact t.tok H.st hx ru
 | none=>
  rw[hw] at hx
  rw[eq_84 sk fr (eq_294 fr.len hw)]
  exact t.tok H.st hx r2⟩
theorem eq_590:kK cx d nm .split "str" "str.split" :=⟨fun J J J J J J J h J r=>eq_292 h r,fun A s σ as h₀ ov pv v pvs vs K Q E ρ env hx0 H r rs t=>by
 obtain⟨b,rfl,hx1⟩:=sY hx0
 obtain⟨x,e1,hx2⟩:=rf hx1
 obtain⟨sep,e2,hx3⟩:=rf hx2
 obtain⟨hc,hx⟩:=rt hx3
 clear hx0 hx1 hx2 hx3
 cases eq_2 e1;cases eq_2 e2
 obtain⟨c1,c2⟩:=Bool.and_eq_true_iff.mp hc
 obtain⟨sx,t1,rfl⟩:=r
 obtain⟨u,rfl,⟨ss,t2,rfl⟩⟩:=rs.one
 have fin:Q (.ref s.heap.objs.size) {s with heap:=s.heap.push {cls:=.type "list",data:=.seq [Value.str (aJ x) t1].toArray}}:=by
  obtain⟨st',f'⟩:=H.st.push {cls:=.type "list",data:=.seq [Value.str (aJ x) t1].toArray}
  exact t _ σ _ as _ hx f' st' ⟨_,[.str (aJ x) t1],rfl,H.st.fresh (rp _),eq_19 _ _,_,_,rfl,⟨sx,t1,rfl⟩,rfl⟩
 cases h1:(decide ((aJ x).length<(aJ sep).length)||decide (Builtin.Str.strKind (aJ x)<Builtin.Str.strKind (aJ sep))) with
 | true=>exact call_meets F.slot_str_split (typeIs_str _ _ _) F.entry_str_split (F.args_str_split_2 _ _) (meets_str_split_cannot_occur _ _ _ _ h1) fin
 | false=>exact call_meets F.slot_str_split (typeIs_str _ _ _) F.entry_str_split (F.args_str_split_2 _ _) (meets_str_split_not_found _ _ _ _ h1 (by simpa using c2) c1) fin⟩
theorem eq_591 {h:Heap}{F:AP}{xs:List D}:∀ {vs:List Value}{ns:List Nat},DReps h F xs vs→jo xs=some ns→∃ l:List (Str×Tok),vs=strValues l∧l.map (·.1)=ns.map aJ∧∀ n∈ns,bc n=true:=by
 induction xs with
 | nil=>intro vs ns e q;cases e;cases q;exact⟨[],rfl,rfl,fun J h=>nomatch h⟩
 | cons x xs ih=>
  intro vs ns r q0
  obtain⟨v,r,rfl,a,b⟩:=r
  obtain⟨n,e,q1⟩:=Option.bind_eq_some_iff.mp q0
  obtain⟨ns,q,rfl⟩:=Option.map_eq_some_iff.mp q1
  clear q0 q1
  cases eq_86 e
  obtain⟨sn,tk,rfl⟩:=a
  obtain⟨l,rfl,h1,h2⟩:=ih b q
  exact⟨(aJ n,tk)::l,rfl,congrArg (aJ n::·) h1,List.forall_mem_cons.mpr ⟨sn,h2⟩⟩
theorem eq_592:kK cx d nm .join "str" "str.join" :=⟨fun J J J J J J J h J r=>eq_292 h r,fun A s σ as h₀ ov pv v pvs vs K Q E ρ env hx0 H r rs t=>by
 obtain⟨b,rfl,hx1⟩:=sY hx0
 obtain⟨sep,e1,hx2⟩:=rf hx1
 obtain⟨xs,e2,hx3⟩:=rf hx2
 obtain⟨ns,hns,hx4⟩:=rf hx3
 obtain⟨hc,hx⟩:=rt hx4
 clear hx0 hx1 hx2 hx3 hx4
 cases eq_2 e1;cases eq_143 e2
 obtain⟨sx,t1,rfl⟩:=r
 obtain⟨u,rfl,ru⟩:=rs.one
 obtain⟨c,ws,rfl,fc,hl,rw⟩:=ru
 obtain⟨l,rfl,e1,hv⟩:=eq_591 rw hns
 refine SC.join hl.isList e1 (eq_588 (Nat.le_of_ble_eq_true hc)) fun t' k=>?_
 have q:=eq_87 (eq_586 sep sx ns hv)
 refine t.tok H.st hx ⟨q.1,t',?_⟩
 rw[q.2,← eq_585,← StrLaws.glued_eq_join]
 rfl⟩
end
theorem eq_295 {name:Str}{hsh:Int}{t:Tok}{v:Value}{l:List DictEntry}(hl:ia l):ia (putL name hsh (.str name t) v l):=by
 induction l with
 | nil=>exact fun e h=>by rw[mem_singleton.mp h];exact⟨_,_,rfl⟩
 | cons a l ih=>
  intro e h
  have h:e∈(if a.key.isStr name=true then (⟨a.hash,a.key,v⟩:DictEntry)::l else a::putL name hsh (.str name t) v l):=h
  by_cases q:a.key.isStr name=true
  ·rw[if_pos q] at h
   exact(mem_cons.mp h).elim (fun e=>e▸hl a mem_cons_self) fun h=>hl e (mem_cons_of_mem _ h)
  ·rw[if_neg q] at h
   exact(mem_cons.mp h).elim (fun e=>e▸hl a mem_cons_self) fun h=>ih (fun e h=>hl e (mem_cons_of_mem _ h)) e h
theorem eq_296 {l:List DictEntry}(hl:ia l)(y:Str):getL y l=some ((l.find? (·.key.isStr y)).map (·.val)):=by
 show (match l.find? (·.key.isStr y) with
  | some e=>some (some e.val)
  | none=>if l.any (·.refKey)=true then none else some none)=_
 cases l.find? (·.key.isStr y) with
 | some e=>rfl
 | none=>
  refine if_neg fun h=>?_
  obtain⟨⟨_,k,_⟩,he,h⟩:=List.any_eq_true.mp h
  obtain⟨y,t,e1⟩:=hl _ he
  cases e1
  cases h
theorem eq_593 {name x:Str}{hsh:Int}{t:Tok}{v:Value}{l:List DictEntry}(hl:ia l):((putL name hsh (.str name t) v l).find? (·.key.isStr x)).map (·.val)=if x=name then some v else (l.find? (·.key.isStr x)).map (·.val):=by
 have pos:∀ {e:DictEntry}{r:List DictEntry} {y t},e.key=.str y t→y=x→(e::r).find? (·.key.isStr x)=some e:=fun e1 e2=>List.find?_cons_of_pos (by rw[e1];exact beq_iff_eq.mpr e2)
 have neg:∀ {e:DictEntry}{r:List DictEntry} {y t},e.key=.str y t→y≠x→(e::r).find? (·.key.isStr x)=r.find? (·.key.isStr x):=fun e1 e2=>List.find?_cons_of_neg (by rw[e1];exact fun q=>e2 (eq_of_beq q))
 induction l with
 | nil=>
  show (List.find? _ [(⟨hsh,.str name t,v⟩:DictEntry)]).map _=_
  by_cases q:x=name
  ·rw[pos rfl q.symm,if_pos q];rfl
  ·rw[neg rfl (Ne.symm q),if_neg q]
 | cons a l ih=>
  obtain⟨y,t',ea⟩:=hl a mem_cons_self
  have ih:=ih fun e h=>hl e (mem_cons_of_mem _ h)
  by_cases q:y=name
  ·rw[show putL name hsh (.str name t) v (a::l)=(⟨a.hash,a.key,v⟩:DictEntry)::l from if_pos (by rw[ea];exact beq_iff_eq.mpr q)]
   by_cases r:x=name
   ·rw[pos (e:=⟨a.hash,a.key,v⟩) ea (q.trans r.symm),if_pos r];rfl
   ·have n:y≠x:=fun e=>r (e.symm.trans q)
    rw[neg (e:=⟨a.hash,a.key,v⟩) ea n,neg ea n,if_neg r]
  ·rw[show putL name hsh (.str name t) v (a::l)=a::putL name hsh (.str name t) v l from if_neg (by rw[ea];exact fun e=>q (eq_of_beq e))]
   by_cases r:y=x
   ·rw[pos ea r,pos ea r,if_neg fun e=>q (r.trans e)]
   ·rw[neg ea r,neg ea r];exact ih
theorem eq_594 {name x:Str}{hsh:Int}{t:Tok}{v:Value}{es:List DictEntry}(he:ia es):getL x (putL name hsh (.str name t) v es)=if x=name then some (some v) else getL x es:=by
 rw[eq_296 (eq_295 he),eq_296 he,eq_593 he]
 by_cases q:x=name
 ·rw[if_pos q,if_pos q]
 ·rw[if_neg q,if_neg q]
theorem eq_297 {name:Str}{hsh:Int}{key v:Value}{l:List DictEntry}:(putL name hsh key v l).length=if l.any (·.key.isStr name) then l.length else l.length+1:=by
 induction l with
 | nil=>rfl
 | cons a l ih=>
  show (if a.key.isStr name=true then (⟨a.hash,a.key,v⟩:DictEntry)::l else a::putL name hsh key v l).length=if (a.key.isStr name||l.any (·.key.isStr name))=true then l.length+1 else l.length+1+1
  cases a.key.isStr name with
  | true=>rfl
  | false=>
   refine(congrArg (·+1) ih).trans ?_
   cases l.any (·.key.isStr name)<;>rfl
section
variable {cx:Cx}{Φ:b9}{d:Nat}{nm:List (Str×NameKind)}{ρ:aN}{σ:ak}{A:Around}{env:Env}{h₀:Heap}{ov nw:List Addr}{as as' as'':List (Addr×Addr)}{s s' s'':Shared}
theorem eq_157 {k:Nat}{x:PV}:∀ {ks:List Nat}{vs:List PV},ks.length=vs.length→(dC k x ks vs).1.length=if ks.any (·==k) then ks.length else ks.length+1
 | [],[],_=>rfl
 | [],_::_,h=>by simp at h
 | _::_,[],h=>by simp at h
 | n::ns,v::vs,h=>by
  simp only[dC,List.any_cons]
  by_cases hb:n=k
  ·have:(n==k)=true:=by simpa using hb
   simp[this]
  ·have:(n==k)=false:=by simpa using hb
   simp only[this,cond_false,List.length_cons,Bool.false_or]
   rw[eq_157 (by simpa using h)];split<;>rfl
theorem FReps.ext {h:Heap}{F:AP}:∀ {ks:List Nat}{vs:List PV}{f g:Str→Option Value},FReps cx h F as ks vs f→(∀ x,f x=g x)→FReps cx h F as ks vs g:=fun r e=>by
 have:_=_:=funext e
 rw[← this];exact r
theorem FReps.put {h:Heap}{F:AP}{k:Nat}{v:PV}{u:Value}(sk:bc k=true)(ru:az cx h F as v u){vs:List PV}:∀ {ks:List Nat}{f:Str→Option Value},FReps cx h F as ks vs f→
  FReps cx h F as (dC k v ks vs).1 (dC k v ks vs).2 (fun x=>if x=aJ k then some u else f x):=by
 induction vs with
 | nil=>
  intro ks f
  cases ks with
  | nil=>exact fun r=>⟨sk,⟨u,if_pos rfl,ru⟩,rfl,fun x=>by
    by_cases q:x=aJ k
    ·exact if_pos q
    ·exact(if_neg q).trans ((if_neg q).trans (r.2 x))⟩
  | cons n ns=>exact fun r=>r.elim
 | cons w vs ih=>
  intro ks f
  cases ks with
  | nil=>exact fun r=>nomatch r.1
  | cons n ns=>
   intro r
   show FReps cx h F as (bif n==k then (n::ns,v::vs) else (n::(dC k v ns vs).1,w::(dC k v ns vs).2)).1 (bif n==k then (n::ns,v::vs) else (n::(dC k v ns vs).1,w::(dC k v ns vs).2)).2 _
   cases hb:n==k with
   | true=>
    have e:=eq_of_beq hb
    subst e
    exact⟨sk,⟨u,if_pos rfl,ru⟩,r.2.2.ext fun x=>by
     by_cases q:x=aJ n
     ·exact(if_pos q).trans (if_pos q).symm
     ·exact(if_neg q).trans ((if_neg q).trans (if_neg q)).symm⟩
   | false=>
    have ne:aJ n≠aJ k:=fun q=>by rw[sQ r.1 sk q,beq_self_eq_true] at hb;exact ff hb.symm
    exact⟨r.1,r.2.1.imp fun u' q=>⟨(if_neg ne).trans q.1,q.2⟩,(ih r.2.2).ext fun x=>by
     by_cases q:x=aJ n
     ·exact(if_neg (q▸ne)).trans ((if_pos q).trans (if_pos q).symm)
     ·by_cases p:x=aJ k
      ·exact(if_pos p).trans ((if_neg q).trans (if_pos p)).symm
      ·exact(if_neg p).trans ((if_neg q).trans ((if_neg q).trans (if_neg p)).symm)⟩
set_option tactic.hygienic true in
theorem eq_595 (X:cx.K.In s.heap){C a dx:Addr}{es:List DictEntry}{n:Nat}{name:Str}{v:Value}(I:PySem.W.InstAt s.heap a (instObj C dx) C (some (PySem.W.dictOf es n)))
  (hs:findIn cx.K (.ref C) "__setattr__" = some (some (.builtin "object.__setattr__")))(hp:plainOver cx.K C=true)(ht:takerIn cx.K C name=some none)(hh:hasDictIn cx.K C=true)(hl:(getL name es).isSome=true)(hz:es.length≤999){Q:Unit→Shared→Prop} {E}
  (h:∀ hsh t tk,Q () {s with heap:=s.heap.update dx (Obj.putName name hsh (.str name t) v),toks:=tk}):wpAny (model cx.prog cx.w) A (setAttr (.ref a) name v) Q E s:=by
 refine set_plain X I hs (osa_open (s:={s with toks:=s.toks+1}) X I hp ht fun b=>?_)
 obtain⟨cd,hc,hd'⟩:=any_some hh
 obtain⟨hx,hcl,hn,D⟩:=I
 have D:s.heap.get? dx=some (PySem.W.dictOf es n):=D
 have hx:s.heap.get? a=some {cls:=.ref C,dict:=some dx,data:=.plain,slots:=#[]}:=hx
 refine wpAny_bind (wpAny_pure (wpAny_bind (wpAny_bind (wpAny_loadPart hx (wpAny_bind (Looks.here (s:={s with toks:=s.toks+1}) (looks_clsIn X hc) ?_))))))
 rw[hd']
 refine wpAny_pure (a:=some dx) (wpAny_bind (wpAny_pure (wpAny_bind ?_)))
 unfold nsSet
 refine wpAny_bind (wpAny_bind (wpAny_askSetting (wpAny_pure (wpAny_bind (wpAny_mkText (wpAny_bind (wpAny_loadPart D ?_)))))))
 dsimp only
 have c:(!es.toArray.any (·.key.isStr name)&&es.toArray.any (·.refKey))=false:=by
  rw[← Array.any_toList,← Array.any_toList]
  unfold getL at hl
  split at hl
  ·rename_i en he
   rw[List.any_eq_true.mpr ⟨en,List.mem_of_find?_eq_some he,List.find?_some he⟩];rfl
  ·split at hl
   ·cases hl
   ·rename_i z;rw[Bool.not_eq_true] at z
    rw[show es.toArray.toList.any (·.refKey)=false from z,Bool.and_false]
 rw[aRefKeyMayBeTheName_at,c]
 refine wpAny_updatePart D ?_
 have e1:=putName_dict name (PyData.keyHash cx.w.params name) (.str name (s.toks+1)) v es n
 have D':(s.heap.update dx (Obj.putName name (PyData.keyHash cx.w.params name) (.str name (s.toks+1)) v)).get? dx=some (PySem.W.dictOf (putL name (PyData.keyHash cx.w.params name) (.str name (s.toks+1)) v es) (putN name es n)):=by
  rw[← e1]
  exact Heap.get?_update_self _ D (by rw[e1];rfl)
 refine wpAny_bind (wpAny_lookBehind D' (by
  refine pastItsLine_dict ?_
  rw[size_toArray,eq_297,sizeLine_eq];split<;>(first | exact u1 hz rfl | exact u5 hz rfl)) ?_)
 exact wpAny_pure (h _ _ _)
theorem eq_596 {x:Str}{es:List DictEntry}{o:Option Value}(h:getL x es=some o):es.any (·.key.isStr x)=o.isSome:=by
 rw[← List.isSome_find?]
 unfold getL at h
 cases q:es.find? (·.key.isStr x) with
 | some en=>rw[q] at h;cases h;rfl
 | none=>
  rw[q] at h
  cases z:es.any (·.refKey) with
  | true=>rw[z] at h;cases h
  | false=>rw[z] at h;cases h;rfl
theorem eq_298 {h:Heap}{F:AP}{ks:List Nat}{vs:List PV}{f:Str→Option Value}{k:Nat}(sk:bc k=true)(fr:FReps cx h F as ks vs f):(f (aJ k)).isSome=ks.any (·==k):=by
 rw[← eq_140 (vs:=vs) fr.len]
 cases hq:cJ k ks vs with
 | some w=>obtain⟨u,hu,_⟩:=eq_46 sk fr hq;rw[hu];rfl
 | none=>rw[eq_84 sk fr (eq_294 fr.len hq)];rfl
theorem eq_597 (T:TabOk cx)(X:cx.K.In s.heap)(st:St cx h₀ ov as σ s.heap){x:Nat}{po pv:PV}{o v:Value}{σ':ak}(ro:az cx s.heap (Fz ov as) as po o)(rv:az cx s.heap (Fz ov as) as pv v)(e:mi cx.P.tab.attr σ x pv po=some σ'){Q:Unit→Shared→Prop} {E}
  (q:∀ s',Fw as as s s'→St cx h₀ ov as σ' s'.heap→Q () s'):wpAny (model cx.prog cx.w) A (setAttr o (aJ x) v) Q E s:=by
 cases po with
 | ref i=>
  ·obtain⟨c,ns,vs,hc,e⟩:=eq_146 (f:=fun c ns vs=>bif cx.P.tab.attr c x&&Nat.ble ns.length 500 then (let r:=dC x pv ns vs;some (σ.set i (.inst c r.1 r.2))) else none) e
   obtain⟨hb,e⟩:=so e
   cases e
   obtain⟨ha,hz⟩:=Bool.and_eq_true_iff.mp hb
   have hz:=Nat.le_of_ble_eq_true hz
   obtain⟨sv,G⟩:=T.attr c x ha
   obtain⟨l,hl,rfl⟩:=ro
   obtain⟨hne,h1,f,⟨es,k,hd,hlen,hent,hg⟩,fr⟩:=st.cellOf hl hc
   have hsome:∀ y,(getL y es).isSome=true:=fun y=>by rw[hg y];rfl
   refine eq_595 X (eq_147 h1 hd) G.set G.over G.taker G.dict (hsome _) (by exact u6 hlen hz rfl) fun hsh t tk=>?_
   have e1:=putName_dict (aJ x) hsh (.str (aJ x) t) v es k
   have D':(s.heap.update l.2 (Obj.putName (aJ x) hsh (.str (aJ x) t) v)).get? l.2=some (PySem.W.dictOf (putL (aJ x) hsh (.str (aJ x) t) v es) (putN (aJ x) es k)):=by
    rw[← e1]
    exact Heap.get?_update_self _ hd (by rw[e1];rfl)
   have o1:∀ b o,b≠l.2→s.heap.get? b=some o→(s.heap.update l.2 (Obj.putName (aJ x) hsh (.str (aJ x) t) v)).get? b=some o:=fun b o n e=>(Heap.get?_update_ne _ _ _ _ n).trans e
   have anyeq:es.any (·.key.isStr (aJ x))=ns.any (·==x):=by rw[eq_596 (hg _),eq_298 sv fr]
   have hC:Mv s.heap (s.heap.update l.2 (Obj.putName (aJ x) hsh (.str (aJ x) t) v)) (Fz ov as) (Fz ov as)→f7 cx (s.heap.update l.2 (Obj.putName (aJ x) hsh (.str (aJ x) t) v)) (Fz ov as) as l (.inst c (dC x pv ns vs).1 (dC x pv ns vs).2):=fun mv=>by
    refine⟨hne,o1 _ _ (Ne.symm hne) h1,fun y=>if y=aJ x then some v else f y,⟨_,_,D',?_,eq_295 hent,fun y=>?_⟩,?_⟩
    ·rw[eq_297,eq_157 fr.len,anyeq,hlen]
    ·rw[eq_594 hent]
     by_cases r:y=aJ x
     ·simp[r]
     ·simp[r,hg y]
    ·exact FReps.put sv (rv.mv mv (cB.refl _)) (fr.mv mv (cB.refl _))
   obtain⟨st',f'⟩:=st.set hl (fun b o J n2 e=>o1 b o n2 e) (fun b o e=>by
    by_cases q:b=l.2
    ·rw[q];exact⟨_,D'⟩
    ·exact⟨o,o1 b o q e⟩) hC tk
   exact q _ f' st'
 | _=>cases e
theorem eq_299 {a:Str×Value}{l:List (Str×Value)}{x:Str}:valueAt (a::l) x=if a.1=x then some a.2 else valueAt l x:=by
 unfold valueAt
 rw[List.find?_cons]
 by_cases h:a.1=x
 ·rw[decide_eq_true h,if_pos h];rfl
 ·rw[decide_eq_false h,if_neg h]
theorem eq_598 {k:Str}{v:Value}{x:Str}(l:List (Str×Value)):valueAt (l.map fun kv=>if kv.1=k then (kv.1,v) else kv) x=if x=k∧(l.any fun kv=>decide (kv.1=k))=true then some v else valueAt l x:=by
 induction l with
 | nil=>exact(if_neg fun h=>ff h.2).symm
 | cons a l ih=>
  rw[List.map_cons,eq_299,eq_299,ih,List.any_cons]
  by_cases q:a.1=k
  ·rw[if_pos q]
   by_cases r:x=k
   ·rw[if_pos (q.trans r.symm),if_pos ⟨r,by rw[decide_eq_true q];rfl⟩]
   ·have n:¬ a.1=x:=fun e=>r (e.symm.trans q)
    rw[if_neg n,if_neg fun h=>r h.1,if_neg fun h=>r h.1,if_neg n]
  ·rw[if_neg q,decide_eq_false q,Bool.false_or]
   by_cases r:a.1=x
   ·rw[if_pos r,if_pos r,if_neg fun h=>q (r.trans h.1)]
   ·rw[if_neg r,if_neg r]
theorem eq_599 {kvs:List (Str×Value)}{k:Str}{v:Value}(x:Str):valueAt (stored kvs k v) x=if x=k then some v else valueAt kvs x:=by
 unfold stored
 by_cases h:kvs.any (fun kv=>decide (kv.1=k))=true
 ·rw[if_pos h,eq_598,h]
  simp
 ·rw[if_neg h]
  refine eq_540 (fun hk=>h ?_) x
  obtain⟨kv,h1,h2⟩:=List.mem_map.mp hk
  exact List.any_eq_true.mpr ⟨kv,h1,by simp[h2]⟩
theorem eq_600 {kvs:List (Str×Value)}{k:Str}{v:Value}:(stored kvs k v).length=if kvs.any (fun kv=>decide (kv.1=k)) then kvs.length else kvs.length+1:=by
 unfold stored
 split<;>simp
theorem VReps.set {h:Heap}{F:AP}{v:PV}{u:Value}(ru:az cx h F as v u):∀ {xs:List PV}{vs:List Value}{n:Nat},VReps cx h F as xs vs→VReps cx h F as (xs.set n v) (vs.set n u)
 | [],_,_,e=>by cases e;rfl
 | x::xs,_,0,⟨w,r,e,a,b⟩=>by subst e;exact⟨u,r,rfl,ru,b⟩
 | x::xs,_,n+1,⟨w,r,e,a,b⟩=>by subst e;exact⟨w,_,rfl,a,VReps.set ru b⟩
theorem eq_601 {l:Addr}{items:Array Value}{k:Int}{n:Nat}{t:Tok}{v:Value}{Q:Unit→Shared→Prop} {E}(ho:s.heap.get? l=some (seqObj "list" items n))(h0:0≤k)(hfit:k<2 ^ 63)(hn:k<items.size)
  (hQ:Q () {s with heap:=s.heap.update l (Obj.mapSeq (·.setIfInBounds k.toNat v))}) :
  wpAny (model cx.prog cx.w) A (setItem (.ref l) (.int k t) v) Q E s:=by
 have hl:s.heap.IsList l items:=⟨_,ho,rfl,n,rfl⟩
 have hd:(seqObj "list" items n).data=.seq items n:=rfl
 unfold setItem
 try with_reducible refine wpAny_holding ?_
 first | refine wpAny_bind (wpAny_pure ?_) | skip
 refine wpAny_bind (wpAny_sequenceKey hl.typeIs (by decide) ?_)
 refine wpAny_bind (wpAny_callSpecial?_slot (name:=Str.ofString "__setitem__") hl.typeIs slot_list_setitem
  (wpAny_call_entry slot_list_setitem hl.typeIs entry_list_setitem ?_ (args_list_setitem _ _ _)))
 show wpAny _ _ (Builtin.List.listSubscript? (.int k t) >>= _) _ _ s
 refine wpAny_bind (wpAny_listSubscript_int (fitsIndex_of h0 hfit) ?_)
 clear hfit
 obtain⟨j,rfl⟩:=Int.eq_ofNat_of_zero_le h0
 have hj:j<items.size:=by lia
 have hx':items[j]?=some items[j]:=Array.getElem?_eq_getElem hj
 refine wpAny_bind (wpAny_bind (wpAny_seqItemAt ho hd (wpAny_pure ?_)))
 refine hx'▸?_
 refine wpAny_bind (wpAny_setSeqItemAt ho hd ?_)
 first
  | exact wpAny_bind (wpAny_pure (wpAny_pure ⟨.none,rfl,wpAny_pure hQ⟩))
  | exact wpAny_pure ⟨.none,rfl,wpAny_pure hQ⟩
theorem eq_602 {l:Addr}{items:Array Value}{j n:Nat}{t:Tok}{v:Value}{Q:Unit→Shared→Prop} {E}(ho:s.heap.get? l=some (seqObj "list" items n))(hj:j<items.size)(hz:j≤1000000)
  (hQ:Q () {s with heap:=s.heap.update l (Obj.mapSeq (·.setIfInBounds j v))}) :
  wpAny (model cx.prog cx.w) A (setItem (.ref l) (.int (j:Nat) t) v) Q E s:=eq_601 ho (by lia) (by lia) (by lia) hQ
theorem eq_603 {α:Type}{o:Option Cell}{f:List Nat→List PV→Option α}{x:α}(e:(match o with
  | some (.dict ns vs)=>f ns vs
  | _=>none)=some x):∃ ns vs,o=some (.dict ns vs)∧f ns vs=some x:=by
 cases o with
 | none=>cases e
 | some c=>cases c with
  | dict ns vs=>exact⟨ns,vs,rfl,e⟩
  | _=>cases e
theorem eq_604 (st:St cx h₀ ov as σ s.heap){po pi pv:PV}{o i v:Value}{σ':ak}(ro:az cx s.heap (Fz ov as) as po o)(ri:az cx s.heap (Fz ov as) as pi i)(rv:az cx s.heap (Fz ov as) as pv v)(e0:jc σ po pi pv=some σ'){Q:Unit→Shared→Prop} {E}
  (q:∀ s',Fw as as s s'→St cx h₀ ov as σ' s'.heap→Q () s'):wpAny (model cx.prog cx.w) A (setItem o i v) Q E s:=by
 cases po with
 | ref j=>
  obtain⟨d,e1,e2⟩:=Option.bind_eq_some_iff.mp e0
  clear e0
  cases eq_1 e1
  cases d with
  | int m=>
   obtain⟨n,em,e3⟩:=Option.bind_eq_some_iff.mp e2
   clear e2
   obtain⟨xs,hc,e⟩:=eq_272 (f:=fun xs=>bif Nat.blt n xs.length&&Nat.ble n 1000000 then some (σ.set j (.list (xs.set n pv))) else none) e3
   cases eq_284 em
   obtain⟨hb,e⟩:=so e
   cases e
   obtain⟨hb1,hb2⟩:=Bool.and_eq_true_iff.mp hb
   have hn:n<xs.length:=Nat.le_of_ble_eq_true hb1
   have hz:=Nat.le_of_ble_eq_true hb2
   obtain⟨l,hl,rfl⟩:=ro
   obtain⟨tk,rfl⟩:=ri
   obtain⟨h2,us,⟨k,ho⟩,rr⟩:=st.cellOf hl hc
   have hj:n<us.toArray.size:=by rw[size_toArray,rr.len];exact hn
   refine eq_602 ho hj hz ?_
   have hp:=get?_update_seq ho (fun xs=>xs.setIfInBounds n v)
   have e1:us.toArray.setIfInBounds n v=(us.set n v).toArray:=by simp
   rw[e1] at hp
   obtain⟨st',f'⟩:=eq_93 st hl h2 (ws:=xs.set n pv) ⟨_,hp⟩ (Heap.SameBut.update ..) (VReps.set rv rr) s.toks
   exact q _ f' st'
  | str k=>
   obtain⟨ks,vs,hc,e⟩:=eq_603 (f:=fun ks vs=>bif Nat.ble ks.length 500 then (let r:=dC k pv ks vs;some (σ.set j (.dict r.1 r.2))) else none) e2
   obtain⟨hb,e⟩:=so e
   cases e
   have hz:=Nat.le_of_ble_eq_true hb
   obtain⟨l,hl,rfl⟩:=ro
   obtain⟨sk,tk,rfl⟩:=ri
   obtain⟨h2,f,⟨kvs,hd,hn,hf,hsys⟩,fr⟩:=st.cellOf hl hc
   refine wpAny_setItem_pairs (strKind_is _ _ _ _) hd (fun h' hd' hs=>?_) (by rw[sizeLine_eq];exact u6 hn hz rfl)
   have hany:kvs.any (fun kv=>decide (kv.1=aJ k))=ks.any (·==k):=by
    rw[← eq_298 sk fr,← hf]
    unfold valueAt
    rw[Option.isSome_map,List.isSome_find?]
   have hC:Mv s.heap h' (Fz ov as) (Fz ov as)→f7 cx h' (Fz ov as) as l (.dict (dC k pv ks vs).1 (dC k pv ks vs).2):=fun mv=>by
    refine⟨h2,fun y=>if y=aJ k then some v else f y,⟨_,hd',?_,fun y=>?_,hsys⟩,?_⟩
    ·rw[eq_600,eq_157 fr.len,hany,hn]
    ·rw[eq_599,hf]
    ·exact FReps.put sk (rv.mv mv (cB.refl _)) (fr.mv mv (cB.refl _))
   obtain⟨st',f'⟩:=st.set hl (fun b o n1 J e=>rl hs n1 e) (fun b o e=>by
    by_cases q:b=l.1
    ·rw[q];obtain⟨o,_,_,ho,_⟩:=hd';exact⟨o,ho⟩
    ·exact⟨o,rl hs q e⟩) hC (s.toks+1)
   exact q _ f' st'
  | _=>cases e2
 | _=>cases e0
end
end Mine
end
section
set_option backward.match.sparseCases true
set_option genSizeOf false
set_option genCtorIdx false
set_option genInjectivity false
namespace Mine
open PySem PySem.W PySem.Calls PyProof.Rows PySem.Spec
section
variable {cx:Cx}{Φ:b9}{d:Nat}{nm:List (Str×NameKind)}{ρ:aN}{σ:ak}{A:Around}{env:Env}{h₀:Heap}{ov nw own:List Addr}{as as' as'':List (Addr×Addr)}{s s' s'':Shared}
structure Fs (own:List Addr)(as as':List (Addr×Addr))(s s':Shared):Prop where
 pre:∃ nw,as'=as++nw∧∀ l∈nw,s.heap.get? l.1=none∧s.heap.get? l.2=none
 kept:∀ b o,b∉own→Cv as b→s.heap.get? b=some o→s'.heap.get? b=some o
 live:∀ b o,s.heap.get? b=some o→∃ o',s'.heap.get? b=some o'
 rest:∃ h tk,s'={s with heap:=h,toks:=tk}
theorem Fw.fs (x:Fw as as' s s'):Fs own as as' s s':=⟨x.pre,fun b o J c e=>x.kept b o c e,x.live,x.rest⟩
theorem Fs.trans (x:Fs own as as' s s')(y:Fs own as' as'' s' s''):Fs own as as'' s s'':=by
 obtain⟨nw,e1,n1⟩:=x.pre
 obtain⟨nv,e2,n2⟩:=y.pre
 refine⟨⟨nw++nv,by rw[e2,e1,append_assoc],fun l hl=>?_⟩,fun b o hb c e=>?_,fun b o e=>?_,?_⟩
 ·rcases mem_append.mp hl with hl | hl
  ·exact n1 l hl
  ·have nn:∀ b,s'.heap.get? b=none→s.heap.get? b=none:=fun b q=>by
    cases z:s.heap.get? b with
    | none=>rfl
    | some o=>obtain⟨o',z'⟩:=x.live b o z;rw[q] at z';cases z'
   exact⟨nn _ (n2 l hl).1,nn _ (n2 l hl).2⟩
 ·refine y.kept b o hb ?_ (x.kept b o hb c e)
  rw[e1]
  exact sP c fun l hl=>⟨rh e (n1 l hl).1,rh e (n1 l hl).2⟩
 ·obtain⟨o',e'⟩:=x.live b o e
  exact y.live b o' e'
 ·obtain⟨h1,t1,rfl⟩:=x.rest
  obtain⟨h2,t2,rfl⟩:=y.rest
  exact⟨h2,t2,rfl⟩
noncomputable def c8 (env:Env):List Addr:=env.locals::env.cells.map (·.2)
def mt (cx:Cx)(h:Heap)(F:AP)(as:List (Addr×Addr))(fl:Flow):Res→Prop
 | .next=>fl=.next
 | .ret v=>∃ u,fl=.ret u∧az cx h F as v u
def SS (cx:Cx)(Φ:b9) (d:Nat)(nm:List (Str×NameKind))(x:T)(st:List Stmt):Prop:=
 ∀ ρ σ (K:KR) A env h₀ ov as s (Q:Flow→Shared→Prop) E,bu cx.P.tab Φ x ρ σ K→Here cx d nm ρ σ A env h₀ ov as s→
  (∀ r ρ' σ' fl as' s',K r ρ' σ'→Fs (c8 env) as as' s s'→Here cx d nm ρ' σ' A env h₀ ov as' s'→mt cx s'.heap (Fz ov as') as' fl r→Q fl s')→wpAny (model cx.prog cx.w) A (execs st env) Q E s
structure AB (d:Nat)(A:Around):Prop where
 hand:A.handled=none
 depth:A.depth+4*d≤960
 units:A.units+40*d≤9010
theorem AOk.ab (a:AOk d A):AB d A:=⟨a.hand,a.depth,by have:=a.units;exact u1 this rfl⟩
theorem AOk.ab2 (a:AOk d A):AB d A.in1.in1:=⟨a.hand,a.depth,by have:=a.units;show A.units+1+1+40*d≤9010;exact re this (by simp +arith only)⟩
def n8 (cx:Cx)(Φ:b9) (d:Nat) (f:Nat)(fv:Value):Prop:=
 ∀ args σ K A h₀ ov as s vs Q E,Φ f args σ K→AB d A→Gd cx h₀→St cx h₀ ov as σ s.heap→VReps cx s.heap (Fz ov as) as args vs→di cx h₀ ov as s K Q→wpAny (model cx.prog cx.w) A (call fv vs) Q E s
noncomputable def bN (cx:Cx) (f:Nat):Addr:=bif Nat.blt f 1000 then cx.fa f else cx.ca (f - 1000)
def fH (cx:Cx)(Φ:b9) (d:Nat):Prop:=∀ f,n8 cx Φ d f (.ref (bN cx f))
structure FnAt (cx:Cx) (f:Nat)(fn:Fn)(fd:FuncData)(body:List Stmt)(dv:List Value):Prop where
 ho:∃ o,cx.K.lookup (cx.fa f)=some o∧o.data=.func fd
 code:codeIn cx.K fd.code fd.qualname=true
 hbody:fd.body=.stmts body
 glob:fd.globals=mainGlobals
 bi:fd.builtins=builtinsNs
 clo:fd.closure=[]
 co:fd.scope.isCoroutine=false
 gen:fd.scope.isGenerator=false
 kind:fd.scope.kind=.function
 isFn:typeIn cx.K (.ref (cx.fa f))=some (.type "function")
 keep:keepIn cx.K (.ref (cx.fa f))=true
 hdv:jV cx.K fn.dfl dv∧dv.length=fn.dfl.length
 nodup:fk fn.params=true
 pk:∀ p∈fn.params,bc p=true∧(fd.scope.names.lookup (aJ p)=some .local∨fd.scope.names.lookup (aJ p)=some .cell)
 nofree:∀ n,fd.scope.names.lookup n≠some .free
 nd:(fd.scope.names.map (·.1)).Nodup
 bind:∀ (s:Shared) vs,cx.K.In s.heap→vs.length≤fn.params.length→fn.params.length - vs.length≤dv.length→
  BindsTo s fd ⟨vs,[]⟩ ((fn.params.map aJ).zip (vs++dv.drop (dv.length - (fn.params.length - vs.length))))
set_option tactic.hygienic true in
theorem eq_5 {n:Str}:∀ {names:List (Str×NameKind)}{L:Nat}{acc:List (Str×Addr)},(names.lookup n=some .cell∨(acc.lookup n).isSome=true)→((cellsFrom L names acc).lookup n).isSome=true
 | [],_,_,h=>by
  rcases h with h | h
  ·cases h
  ·exact h
 | (m,k)::r,L,acc,h=>by
  unfold cellsFrom
  have push:((((m,L)::acc:List (Str×Addr)).lookup n).isSome=true)∨((n==m)=false):=by
   rw[List.lookup_cons]
   cases q:n==m with
   | true=>exact .inl rfl
   | false=>exact .inr rfl
  split
  ·rename_i hk
   refine eq_5 ?_
   rcases push with p | p
   ·exact .inr p
   ·rcases h with h | h
    ·rw[List.lookup_cons,p] at h;exact .inl h
    ·exact .inr (by rw[List.lookup_cons,p];exact h)
  ·rename_i hk
   refine eq_5 ?_
   rcases h with h | h
   ·rw[List.lookup_cons] at h
    cases q:n==m with
    | true=>
     rw[q] at h
     simp only[Option.some.injEq] at h
     subst h
     exact absurd rfl hk
    | false=>rw[q] at h;exact .inl h
   ·exact .inr h
theorem sT {α:Type}{n:Str}{c:α}:∀ {l:List (Str×α)},(l.map (·.1)).Nodup→(n,c)∈l→l.lookup n=some c
 | (m,k)::r,hn,h=>by
  rw[List.map_cons] at hn
  obtain⟨h1,h2⟩:=List.nodup_cons.mp hn
  rw[List.lookup_cons]
  rcases mem_cons.mp h with e | h'
  ·cases e;simp
  ·have:(n==m)=false:=by
    rw[beq_eq_false_iff_ne]
    intro e
    exact h1 (e▸List.mem_map.mpr ⟨(n,c),h',rfl⟩)
   refine this▸?_
   exact sT h2 h'
theorem eq_158:∀ {names:List (Str×NameKind)}{L:Nat}{acc:List (Str×Addr)},(names.map (·.1)).Nodup→(acc.map (·.1)).Nodup→(∀ x∈acc,x.1∉names.map (·.1))→((cellsFrom L names acc).map (·.1)).Nodup
 | [],_,_,_,h,_=>h
 | (m,k)::r,L,acc,hn,ha,hd=>by
  rw[List.map_cons] at hn
  obtain⟨h1,h2⟩:=List.nodup_cons.mp hn
  unfold cellsFrom
  split
  ·refine eq_158 h2 ?_ fun x hx hm=>?_
   ·rw[List.map_cons]
    refine List.nodup_cons.mpr ⟨fun hm=>?_,ha⟩
    obtain⟨x,hx,e⟩:=List.mem_map.mp hm
    exact hd x hx (by refine e▸?_;exact mem_cons_self)
   ·rcases mem_cons.mp hx with rfl | hx
    ·exact h1 hm
    ·exact hd x hx (mem_cons_of_mem _ hm)
  ·exact eq_158 h2 ha fun x hx hm=>hd x hx (mem_cons_of_mem _ hm)
theorem eq_300 {kindOf:Str→Option NameKind}{n:Str}:∀ {bs:List (Str×Value)}{m:Str→Option Value},n∉bs.map (·.1)→bindL kindOf bs m n=m n
 | [],_,_=>rfl
 | (k,v)::r,m,h=>by
  simp only[List.map_cons,mem_cons,not_or] at h
  unfold bindL
  rw[eq_300 h.2]
  split
  ·exact if_neg h.1
  ·rfl
theorem eq_301 {kindOf:Str→Option NameKind}{n:Str}:∀ {bs:List (Str×Value)}{m:Str→Option Value},n∉bs.map (·.1)→bindC kindOf bs m n=m n
 | [],_,_=>rfl
 | (k,v)::r,m,h=>by
  simp only[List.map_cons,mem_cons,not_or] at h
  unfold bindC
  rw[eq_301 h.2]
  split
  ·rfl
  ·exact if_neg h.1
theorem eq_302 {ps:List Nat}{us:List Value}{n:Str}(h:n∈((ps.map aJ).zip us).map (·.1)):∃ p∈ps,aJ p=n:=by
 obtain⟨x,hx,rfl⟩:=List.mem_map.mp h
 have:=(List.of_mem_zip (a:=x.1) (b:=x.2) hx).1
 exact List.mem_map.mp this
theorem eq_303 {kindOf:Str→Option NameKind}{h:Heap}{F:AP}{as:List (Addr×Addr)}:∀ {ps:List Nat}{pvs:List PV}{us:List Value}{m cm:Str→Option Value},(∀ p∈ps,bc p=true)→ps.Nodup→VReps cx h F as pvs us→
  ∀ x v,bc x=true→(ps.zip pvs).lookup x=some v→∃ u,az cx h F as v u∧(kindOf (aJ x)=some .local→bindL kindOf ((ps.map aJ).zip us) m (aJ x)=some u)∧(kindOf (aJ x)≠some .local→bindC kindOf ((ps.map aJ).zip us) cm (aJ x)=some u)
 | [],_,_,_,_,_,_,_,x,v,_,hl=>by simp at hl
 | p::ps,[],_,_,_,_,_,_,x,v,_,hl=>by simp at hl
 | p::ps,w::pvs,us,m,cm,hs,hn,⟨u0,ur,e,r0,rr⟩,x,v,sx,hl=>by
  subst e
  obtain⟨n1,n2⟩:=List.nodup_cons.mp hn
  rw[List.zip_cons_cons,List.lookup_cons] at hl
  rw[List.map_cons,List.zip_cons_cons]
  cases q:x==p with
  | true=>
   rw[q] at hl
   simp only[Option.some.injEq] at hl
   subst hl
   have e:=eq_of_beq q
   subst e
   have nin:aJ x∉((ps.map aJ).zip ur).map (·.1):=fun hm=>by
    obtain⟨y,hy,e⟩:=eq_302 hm
    exact n1 (sQ (hs y (mem_cons_of_mem _ hy)) sx e▸hy)
   refine⟨u0,r0,fun hk=>?_,fun hk=>?_⟩
   ·unfold bindL
    rw[eq_300 nin,if_pos hk]
    exact if_pos rfl
   ·unfold bindC
    rw[eq_301 nin,if_neg hk]
    exact if_pos rfl
  | false=>
   rw[q] at hl
   obtain⟨u,ru,h1,h2⟩:=eq_303 (m:=if kindOf (aJ p)=some .local then fun y=>if y=aJ p then some u0 else m y else m) (cm:=if kindOf (aJ p)=some .local then cm else fun y=>if y=aJ p then some u0 else cm y) (fun y hy=>hs y (mem_cons_of_mem _ hy)) n2 rr x v sx hl
   exact⟨u,ru,fun hk=>by unfold bindL;exact h1 hk,fun hk=>by unfold bindC;exact h2 hk⟩
theorem eq_159 {h:Heap}{b:Addr}(e:h.objs.size≤b):h.get? b=none:=Heap.get?_none_of_le e
structure ACall (d:Nat)(A:Around):Prop where
 hand:A.handled=none
 depth:A.depth+4*d+3≤960
 units:A.units+40*d+20≤9000
theorem ACall.call (a:ACall d A)(env:Env):AOk d (A.deeper env):=⟨a.hand,by have:=a.depth;show A.depth+1+4*d≤960;exact re this (by simp +arith only),by have:=a.units;show A.units+3+40*d≤9000;exact re this (by simp +arith only)⟩
theorem AB.acall (a:AB (d+1) A):ACall d A:=⟨a.hand,by have:=a.depth;exact Nat.le_of_succ_le this,by have:=a.units;exact re this (by simp +arith only)⟩
theorem eq_605 {h:Heap}{F:AP}{n:Nat}:∀ {xs:List D}{vs:List Value},DReps h F xs vs→DReps h F (xs.drop n) (vs.drop n):=by
 induction n with
 | zero=>exact id
 | succ n ih=>
  intro xs vs r
  cases xs with
  | nil=>cases r;rfl
  | cons x xs=>obtain⟨v,r',rfl,_,q⟩:=r;exact ih q
theorem eq_53 {f:Nat}{fn:Fn}{fd:FuncData}{body:List Stmt}{dv:List Value}(G:FnAt cx f fn fd body dv)(B:SS cx Φ d fd.scope.names fn.body body){args:List PV}{vs:List Value}{K:KP}{Q E:VS}
  (hx:eD cx.P.tab Φ fn args σ K)(ha:ACall d A)(hg:Gd cx h₀)(st:St cx h₀ ov as σ s.heap)(rv:VReps cx s.heap (Fz ov as) as args vs)(t:di cx h₀ ov as s K Q) :
  codeAny (model cx.prog cx.w) A (.call (.ref (cx.fa f)) ⟨vs,[]⟩) (fun r s'=>match r with | .ok (.ret v)=>Q v s' | .ok _=>False | .error e=>E e s') s:=by
 have X:=hg.X.keeps st.keep
 obtain⟨o,ho,hod⟩:=G.ho
 ·obtain⟨ρ,hb,hx⟩:=rf (o:=mo fn args) (k:=fun ρ=>bu cx.P.tab Φ fn.body ρ σ fun r J σ=>K (kH r) σ) hx
  have hc:=(so hb).1;have hb:=(so hb).2
  cases hb
  obtain⟨c1,c2⟩:=Bool.and_eq_true_iff.mp hc
  have c1:=Nat.le_of_ble_eq_true c1
  have c2:=Nat.le_of_ble_eq_true c2
  have hlen:=rv.len
  have hdl:=G.hdv.2
  have rall:VReps cx s.heap (Fz ov as) as (args++(fn.dfl.drop (fn.dfl.length - (fn.params.length - args.length))).map .p) (vs++dv.drop (dv.length - (fn.params.length - vs.length))):=by
   rw[hlen,hdl]
   exact VReps.app (sa (eq_605 (G.hdv.1 _ _ (eq_253 hg.X st)))) rv
  refine codeAny_call_function (by have:=ha.depth;show A.depth<1000;exact rZ this (by simp +arith only)) (X _ _ ho) hod G.co G.gen G.hbody (codeRec_of X G.code) ?_
  refine G.bind s vs X (by rw[hlen];exact c1) (by rw[hlen,hdl];exact c2) _ _ _ _ ?_
  refine G.clo▸?_
  have hnod:=eq_91 G.nodup
  have PK:∀ x∈(fn.params.map aJ).zip (vs++dv.drop (dv.length - (fn.params.length - vs.length))),fd.scope.names.lookup x.1=some .local∨fd.scope.names.lookup x.1=some .cell:=fun x hx=>by
   obtain⟨p,hp,e⟩:=eq_302 (List.mem_map.mpr ⟨x,hx,rfl⟩)
   exact e▸(G.pk p hp).2
  have BV:=fun kindOf=>eq_303 (kindOf:=kindOf) (m:=fun J=>none) (cm:=fun J=>none) (fun p hp=>(G.pk p hp).1) hnod rall
  clear rall
  generalize (fn.params.map aJ).zip (vs++dv.drop (dv.length - (fn.params.length - vs.length)))=Z at PK BV ⊢
  generalize fn.params.zip (args++(fn.dfl.drop (fn.dfl.length - (fn.params.length - args.length))).map .p)=ρ at hx BV
  refine wpAny_newFunctionEnv_cells G.kind (fun x hx=>(PK x hx).imp id fun h=>⟨h,eq_5 (.inl h)⟩) fun env he s₁ I=>?_
  ·have es:env.scope=fd.scope:=congrArg Env.scope he
   have eg:env.globals=mainGlobals:=(congrArg Env.globals he).trans G.glob
   have eb:env.builtins=builtinsNs:=(congrArg Env.builtins he).trans G.bi
   have hcl:∀ n,fd.scope.names.lookup n=some .cell→(env.cells.lookup n).isSome=true:=fun n h=>congrArg Env.cells he▸eq_5 (.inl h)
   have hnd:(env.cells.map (·.1)).Nodup:=congrArg Env.cells he▸eq_158 G.nd List.nodup_nil fun J h=>nomatch h
   clear he PK
   have IC:=I.toInCall
   have kp:=IC.keep
   refine⟨(hg.lim.keeps st.keep).keeps kp,codeAny_func ?_⟩
   have fl:∀ b∈c8 env,s.heap.objs.size≤b:=fun b hb=>by
    rcases mem_cons.mp hb with rfl | hb
    ·exact IC.fresh
    ·obtain⟨x,hx,rfl⟩:=List.mem_map.mp hb
     exact Nat.le_of_lt (Nat.lt_of_le_of_lt IC.fresh (I.above x.1 x.2 hx))
   have hn:∀ b∈c8 env,s.heap.get? b=none:=fun b hb=>eq_159 (fl b hb)
   have hcell:∀ x∈env.cells,∃ o,s₁.heap.get? x.2=some o:=fun x hx=>by
    have h1:env.cells.lookup x.1=some x.2:=sT hnd hx
    obtain⟨o,e,_⟩:=I.cell _ _ h1
    exact⟨o,e⟩
   obtain⟨hh,tk,rfl⟩:=IC.same
   have halive:∀ b∈c8 env,∃ o,hh.get? b=some o:=fun b hb=>by
    rcases mem_cons.mp hb with rfl | hb
    ·obtain⟨o,_,_,e,_⟩:=IC.ns;exact⟨o,e⟩
    ·obtain⟨x,hx,rfl⟩:=List.mem_map.mp hb
     exact hcell x hx
   have st₁:=st.hide (h':=hh) hn kp halive
   have mv₁:Mv s.heap hh (Fz ov as) (Fz (c8 env++ov) as):=tC hn kp
   have kd:∀ n,env.kindOf n=fd.scope.names.lookup n:=fun n=>congrArg (fun s:Scope=>s.names.lookup n) es
   have ER:EnvR cx fd.scope.names env ρ (c8 env++ov) as hh:={
    names:=congrArg Scope.names es
    kind:=(congrArg Scope.kind es).trans G.kind
    glob:=eg
    bi:=eb
    lo:=⟨_,IC.ns⟩
    loOv:=mem_append_left _ mem_cons_self
    cOv:=fun n c h=>mem_append_left _ (mem_cons_of_mem _ (List.mem_map.mpr ⟨(n,c),h,rfl⟩))
    cIs:=fun n c h=>⟨_,I.cell n c h⟩
    apart:=I.apart
    kinds:=fun n h=>by
     rcases h with h | h
     ·exact Option.isSome_iff_exists.mp (hcl n h)
     ·exact absurd h (G.nofree n)
    vals:=fun x v k sx hl hk hq=>by
     obtain⟨u,ru,h1,h2⟩:=BV env.kindOf x v (eq_79 sx) hl
     refine⟨u,?_,ru.mv mv₁ (cB.refl _)⟩
     rcases hq with rfl | rfl | rfl
     ·exact .inl ⟨hk,_,IC.ns,h1 ((kd _).trans hk)⟩
     ·obtain⟨c,hc⟩:=Option.isSome_iff_exists.mp (hcl _ hk)
      refine .inr ⟨.inl hk,c,hc,?_⟩
      have:=I.cell _ _ hc
      rwa [h2 (by rw[kd,hk];decide)] at this
     ·exact absurd hk (G.nofree _)}
   refine B _ σ _ (A.deeper env) env h₀ (c8 env++ov) as _ _ _ hx ⟨ha.call env,hg,st₁,ER⟩ fun r ρ' σ' flw as' s' k f H' rr=>?_
   have fw:Fw as as' s s':=by
    obtain⟨nv,e,hv⟩:=f.pre
    refine⟨⟨nv,e,fun l hl=>?_⟩,fun b o c e=>f.kept b o (fun hb=>rh e (hn b hb) rfl) c (kp b o e),fun b o e=>f.live b o (kp b o e),?_⟩
    ·have:=hv l hl
     have nn:∀ b,hh.get? b=none→s.heap.get? b=none:=fun b q=>by
      cases z:s.heap.get? b with
      | none=>rfl
      | some o=>have:=kp b o z;rw[q] at this;cases this
     exact⟨nn _ this.1,nn _ this.2⟩
    ·obtain⟨h1,t1,e⟩:=f.rest
     exact⟨h1,t1,e⟩
   cases r with
   | next=>
    obtain rfl:flw=.next:=rr
    exact t _ σ' _ as' s' k fw H'.st.weak rfl
   | ret v=>
    obtain⟨u,rfl,ru⟩:=rr
    exact t _ σ' _ as' s' k fw H'.st.weak (ru.mv (tD _) (cB.refl _))
end
end Mine
end
section
set_option genSizeOf false
set_option genCtorIdx false
set_option genInjectivity false
namespace Mine
open PySem PySem.W PySem.Calls PyProof.Rows PySem.Spec
section
variable {cx:Cx}
theorem t5 {vs:List PV}:PV.noRefs vs=true→∀ v∈vs,v.noRef=true:=by
 induction vs with
 | nil=>exact fun J J h=>nomatch h
 | cons v vs ih=>exact fun n y hy=>(mem_cons.mp hy).elim (fun e=>e▸(aT n).1) (ih (aT n).2 y)
theorem VReps.noRef {h h':Heap}{F F':AP}{as as':List (Addr×Addr)}(m:Mv h h' F F'){v:List PV}{u:List Value}(n:PV.noRefs v=true):VReps cx h F as v u→VReps cx h' F' as' v u:=VReps.imp fun v hv=>az.gen m v (.inl (t5 n v hv))
theorem eq_606 {α β:Type}{g:α→Option β}{v:α}{vs:List α}{ws:List β}(e:iQ g (v::vs)=some ws):∃ y ys,g v=some y∧iQ g vs=some ys∧some (y::ys)=some ws:=by
 have e:(match g v,iQ g vs with
  | some y,some ys=>some (y::ys)
  | _,_=>none)=some ws:=e
 revert e
 cases g v with
 | none=>exact fun e=>nomatch e
 | some y=>
  cases iQ g vs with
  | none=>exact fun e=>nomatch e
  | some ys=>exact fun e=>⟨y,ys,rfl,rfl,e⟩
theorem eq_304 {h:Heap}{F F':AP}{as as':List (Addr×Addr)}{g:PV→Option PV}(hg:∀ v w u,g v=some w→az cx h F as v u→az cx h F' as' w u){vs:List PV} :
  ∀ {ks:List Nat}{ws:List PV}{f:Str→Option Value},FReps cx h F as ks vs f→iQ g vs=some ws→FReps cx h F' as' ks ws f:=by
 induction vs with
 | nil=>
  intro ks ws f r e
  cases e
  revert r
  cases ks<;>exact fun r=>r
 | cons v vs ih=>
  intro ks ws f
  cases ks with
  | nil=>exact fun r=>nomatch r.1
  | cons k ks=>
   intro r e
   obtain⟨y,ys,h1,h2,e⟩:=eq_606 e
   cases e
   exact And.imp id (And.imp (Exists.imp fun u=>And.imp id (hg v y u h1)) fun r=>ih r h2) r
theorem eq_607 {h:Heap}{F F':AP}{as as':List (Addr×Addr)}{σ:ak}(hc:∀ (i:Nat)(l:Addr×Addr)(c:Cell),as[i]?=some l→σ[i]?=some c→f7 cx h F as l c)(hF:∀ b,F b→F' b)(hL:∀ l∈as,F' l.1∧F' l.2) :
  ∀ (n:Nat)(v w:PV)(u:Value),nC n σ v=some w→az cx h F as v u→az cx h F' as' w u:=by
 have m:Mv h h F F':=fun b o f e=>⟨hF b f,e⟩
 intro n
 induction n with
 | zero=>
  intro v w u
  cases v with
  | p q=>exact fun e=>Option.some.inj e▸cc.mv m
  | _=>exact fun e=>nomatch e
 | succ n ih=>
  intro v w u
  have oth:∀ v,(bif v.noRef then some v else none)=some w→az cx h F as v u→az cx h F' as' w u:=fun v=>by
   cases hn:v.noRef with
   | false=>exact fun e=>nomatch e
   | true=>exact fun e=>Option.some.inj e▸az.gen m v (.inl hn)
  cases v with
  | p q=>exact fun e=>Option.some.inj e▸cc.mv m
  | ref i=>
   rintro e ⟨l,hl,rfl⟩
   have hm:=hL l (List.mem_iff_getElem?.mpr ⟨i,hl⟩)
   have e:(match σ[i]? with
    | some (.list xs)=>(eB xs).map fun ds=>PV.p (.lst ds)
    | some (.inst c ns vs)=>(iQ (nC n σ) vs).map fun vs=>.inst c ns vs
    | some (.dict ks vs)=>(iQ (nC n σ) vs).map fun vs=>.dct ks vs
    | none=>none)=some w:=e
   have hc:=hc i l
   revert e hc
   cases σ[i]? with
   | none=>exact fun e=>nomatch e
   | some c=>
    intro e hc
    have hc:=hc c hl rfl
    cases c with
    | list xs=>
     obtain⟨ds,hp,rfl⟩:=Option.map_eq_some_iff.mp e
     exact⟨l.1,hc.2.imp fun vs q=>⟨rfl,hm.1,q.1,DReps.mv m (eq_44 hp q.2)⟩⟩
    | inst c ns vs=>
     obtain⟨ws,hp,rfl⟩:=Option.map_eq_some_iff.mp e
     exact⟨l.1,l.2,hc.2.2.imp fun f q=>⟨rfl,hm.1,hm.2,hc.2.1,q.1,eq_304 ih q.2 hp⟩⟩
    | dict ks vs=>
     obtain⟨ws,hp,rfl⟩:=Option.map_eq_some_iff.mp e
     exact⟨l.1,hc.2.imp fun f q=>⟨rfl,hm.1,q.1,eq_304 ih q.2 hp⟩⟩
  | mix xs=>exact oth _
  | inst c ns vs=>exact oth _
  | dct ks vs=>exact oth _
end
section
variable {cx:Cx}{Φ:b9}{d:Nat}{nm:List (Str×NameKind)}{ρ:aN}{σ:ak}{A:Around}{env:Env}{h₀:Heap}{ov nw own:List Addr}{as as' as'':List (Addr×Addr)}{s s' s'':Shared}
noncomputable def dy (as:List (Addr×Addr)):List Addr:=as.map (·.1)++as.map (·.2)
theorem tE {b:Addr}:b∈dy as↔∃ l∈as,b=l.1∨b=l.2:=by
 unfold dy
 rw[mem_append,List.mem_map,List.mem_map]
 constructor
 ·rintro (⟨l,h,rfl⟩ | ⟨l,h,rfl⟩)
  ·exact⟨l,h,.inl rfl⟩
  ·exact⟨l,h,.inr rfl⟩
 ·rintro ⟨l,h,rfl | rfl⟩
  ·exact .inl ⟨l,h,rfl⟩
  ·exact .inr ⟨l,h,rfl⟩
theorem eq_305 {b:Addr}:Fz (dy as++ov) as' b→Fz ov as b:=fun f=>
 ⟨fun h=>f.1 (mem_append_right _ h),fun l hl=>⟨fun q=>f.1 (mem_append_left _ (tE.mpr ⟨l,hl,.inl q⟩)),fun q=>f.1 (mem_append_left _ (tE.mpr ⟨l,hl,.inr q⟩))⟩⟩
theorem eq_608 {b:Addr}(f:Fz ov as b):Fz (dy as++ov) [] b:=
 ⟨fun h=>(mem_append.mp h).elim (fun q=>let ⟨l,hl,e⟩:=tE.mp q;e.elim (f.2 l hl).1 (f.2 l hl).2) f.1,fun J h=>nomatch h⟩
theorem St.forget (t:St cx h₀ ov as σ s.heap):St cx h₀ (dy as++ov) [] [] s.heap where
 keep:=t.keep
 ovOld:=fun b hb=>(mem_append.mp hb).elim (fun q=>let ⟨l,hl,e⟩:=tE.mp q;e.elim (fun e=>e▸(t.asOld l hl).1) (fun e=>e▸(t.asOld l hl).2)) (t.ovOld b)
 asOld:=fun J h=>nomatch h
 ovIn:=fun b hb=>(mem_append.mp hb).elim (fun q=>let ⟨l,hl,e⟩:=tE.mp q;e.elim (fun e=>e▸(t.at hl).1) (fun e=>e▸(t.at hl).2)) (t.ovIn b)
 ovAs:=fun J J J h=>nomatch h
 apart:=List.Pairwise.nil
 len:=rfl
 cells:=fun i l c h J=>by simp at h
theorem Fw.all (f:Fw [] as' s s'):∀ b o,s.heap.get? b=some o→s'.heap.get? b=some o:=fun b o e=>f.kept b o (fun J h=>nomatch h) e
theorem eq_306 (t:St cx h₀ ov as σ s.heap)(f:Fw [] as' s s')(t':St cx h₀ (dy as++ov) as' σ' s'.heap){v w:PV}{u:Value}(r:az cx s'.heap (Fz (dy as++ov) as') as' v u)(e:nC 4 σ' v=some w) :
  St cx h₀ ov as σ s'.heap∧Fw as as s s'∧az cx s'.heap (Fz ov as) as w u:=by
 obtain⟨hh,tk,es⟩:=f.rest
 have kp:=f.all
 subst es
 obtain⟨st,fw⟩:=t.kp (h':=hh) kp tk
 refine⟨st,fw,eq_607 t'.cells (fun b h=>eq_305 h) (fun l hl=>?_) 4 v w u e r⟩
 have h1:∀ b,(b=l.1∨b=l.2)→Fz ov as b:=fun b hb=>by
  refine eq_305 (as':=[]) ⟨fun h=>?_,fun J h=>nomatch h⟩
  have:=t'.ovAs b h l hl
  rcases hb with rfl | rfl
  ·exact this.1 rfl
  ·exact this.2 rfl
 exact⟨h1 _ (.inl rfl),h1 _ (.inr rfl)⟩
theorem eq_307 (t:St cx h₀ ov as σ s.heap):Mv s.heap s.heap (Fz ov as) (Fz (dy as++ov) []):=fun b o f e=>⟨eq_608 f,e⟩
theorem eq_609 {f:Nat}{fn:Fn}{fd:FuncData}{body:List Stmt}{dv:List Value}(G:FnAt cx f fn fd body dv)(B:SS cx Φ d fd.scope.names fn.body body){args:List PV}{vs:List Value}{K:KP} {Q E}
  (hx:jq cx.P.tab Φ fn args σ K)(ha:ACall d A)(hg:Gd cx h₀)(st:St cx h₀ ov as σ s.heap)(rv:VReps cx s.heap (Fz ov as) as args vs)(t:di cx h₀ ov as s K Q) :
  wpAny (model cx.prog cx.w) A (call (.ref (cx.fa f)) vs) Q E s:=by
 unfold jq at hx
 cases hp:fn.pur<;>rw[hp] at hx
 rotate_left
 ·obtain⟨hn,hx⟩:=rt hx
  refine wpAny_call (eq_53 G B hx ha hg st.forget (VReps.noRef (eq_307 st) hn rv) fun pv σ' v as' s' k f st' r=>?_)
  ·obtain⟨w,hw,k⟩:=rf k
   obtain⟨h1,h2,h3⟩:=eq_306 st f st' r hw
   exact t w σ v as s' k h2 h1 h3
 ·exact wpAny_call (eq_53 G B hx ha hg st rv t)
structure ClsAt (cx:Cx) (c:Nat) (f:Nat):Prop where
 makes:makesIn cx.K (cx.ca c)=true
 init:findIn cx.K (.ref (cx.ca c)) "__init__" = some (some (.ref (cx.fa f)))
 keep:keepIn cx.K (.ref (cx.ca c))=true
theorem AB.under (a:AB (d+1) A){C:Addr}{vs:List Value}:ACall d (A.under (.builtin "type.__call__" ⟨.ref C::vs,[]⟩)):=by
 refine⟨a.hand,?_,?_⟩
 ·show A.depth+Code.weight _+_+_≤_
  have e:Code.weight (.builtin "type.__call__" ⟨.ref C::vs,[]⟩)=1:=by
   unfold Code.weight
   rfl
  rw[e]
  exact re a.depth (by simp +arith only)
 ·show A.units+Code.cUnits _+_+_≤_
  have e:Code.cUnits (.builtin "type.__call__" ⟨.ref C::vs,[]⟩)=1:=by kernel_rfl
  rw[e]
  exact re a.units (by simp +arith only)
theorem eq_610 (h:Heap)(C:Addr):(∀ b o,h.get? b=some o→((h.push emptyDict).push (instObj C h.objs.size)).get? b=some o)∧((h.push emptyDict).push (instObj C h.objs.size)).get? (h.objs.size+1)=some (instObj C h.objs.size)∧
  ((h.push emptyDict).push (instObj C h.objs.size)).get? h.objs.size=some emptyDict:=by
 refine⟨fun b o e=>Heap.get?_push_of_some _ (Heap.get?_push_of_some _ e),?_,Heap.get?_push_of_some _ (Heap.get?_push_size _ rfl)⟩
 have:=Heap.get?_push_size (h.push emptyDict) (o:=instObj C h.objs.size) rfl
 rwa [Heap.size_push] at this
theorem eq_308 (st:St cx h₀ ov as σ s.heap) (c:Nat):St cx h₀ ov (as++[(s.heap.objs.size+1,s.heap.objs.size)]) (σ++[.inst c [] []]) ((s.heap.push emptyDict).push (instObj (cx.ca c) s.heap.objs.size))∧
  Fw as (as++[(s.heap.objs.size+1,s.heap.objs.size)]) s {s with heap:=(s.heap.push emptyDict).push (instObj (cx.ca c) s.heap.objs.size)}:=by
 obtain⟨kp,e1,e2⟩:=eq_610 s.heap (cx.ca c)
 exact st.add (l:=(s.heap.objs.size+1,s.heap.objs.size)) (c:=.inst c [] []) kp (eq_159 (Nat.le_succ _)) (rp _)
  ⟨Nat.ne_of_lt (Nat.lt_succ_self _),e1,fun J=>none,⟨[],0,e2,rfl,(show ia [] from fun J h=>nomatch h),fun J=>rfl⟩,rfl,fun J=>rfl⟩ s.toks
theorem eq_309 {pv:PV}{P:Prop}(h:match pv with
  | .p .none=>P
  | _=>False):pv=.p .none∧P:=by
 cases pv with
 | p d=>cases d with
  | none=>exact⟨rfl,h⟩
  | _=>exact h.elim
 | _=>exact h.elim
theorem eq_611 {c f:Nat}{pur:Bool}{fn:Fn}{fd:FuncData}{body:List Stmt}{dv:List Value}(C:ClsAt cx c f)(G:FnAt cx f fn fd body dv)(B:SS cx Φ d fd.scope.names fn.body body){args:List PV}{vs:List Value}{K:KP} {Q E}
  (hx:mq cx.P.tab Φ c pur fn args σ K)(ha:AB (d+1) A)(hg:Gd cx h₀)(st:St cx h₀ ov as σ s.heap)(rv:VReps cx s.heap (Fz ov as) as args vs)(t:di cx h₀ ov as s K Q) :
  wpAny (model cx.prog cx.w) A (call (.ref (cx.ca c)) vs) Q E s:=by
 have X:=hg.X.keeps st.keep
 refine wpAny_call ?_
 have mk:∀ {R:Result→Shared→Prop},codeAny (model cx.prog cx.w) (A.under (.builtin "type.__call__" ⟨.ref (cx.ca c)::vs,[]⟩)) (.call (.ref (cx.fa f)) ⟨.ref (s.heap.objs.size+1)::vs,[]⟩) (InitBack (s.heap.objs.size+1) R) {s with heap:=(s.heap.push emptyDict).push (instObj (cx.ca c) s.heap.objs.size)}→
   codeAny (model cx.prog cx.w) A (.call (.ref (cx.ca c)) ⟨vs,[]⟩) R s:=fun h=>by
  obtain⟨hh,g,dd,tk,os⟩:=s
  exact make_core (makes_of X C.makes) (looks_findIn X C.init) (fun self=>bind_fn X self G.isFn) (.inl rfl) h
 refine mk ?_
 cases pur
 rotate_left
 ·obtain⟨hn,hx⟩:=rt (c:=PV.noRefs args) hx
  obtain⟨st1,f1⟩:=eq_308 (cx:=cx) st.forget c
  refine codeAny_mono (eq_53 (Q:=fun v s'=>v=.none∧Q (.ref (s.heap.objs.size+1)) s') (E:=E) G B hx ha.under hg st1 ⟨_,_,rfl,⟨_,rfl,rfl⟩,VReps.noRef (Mv.trans (eq_307 st) f1.mv) hn rv⟩ fun pv σ' v as' s' k f st' r=>?_) fun r s' h=>?_
  ·obtain⟨rfl,k⟩:=eq_309 k
   ·obtain rfl:v=.none:=r
    ·obtain⟨w,hw,k⟩:=rf k
     obtain⟨h1,h2,h3⟩:=eq_306 st (f1.trans f) st' (v:=.ref 0) (u:=.ref (s.heap.objs.size+1)) ⟨_,f.prefix 0 _ rfl,rfl⟩ hw
     exact⟨rfl,t w σ _ as s' k h2 h1 h3⟩
  ·rcases r with e | (v | _ | _ | _)<;>first | exact h | exact h.elim
 ·replace hx:eD cx.P.tab Φ fn (.ref σ.length::args) (σ++[.inst c [] []]) (fun v σ'=>match v with
   | .p .none=>K (.ref σ.length) σ'
   | _=>False):=hx
  obtain⟨st1,f1⟩:=eq_308 (cx:=cx) st c
  have hl:(as++[(s.heap.objs.size+1,s.heap.objs.size)])[σ.length]?=some (s.heap.objs.size+1,s.heap.objs.size):=by rw[← st.len];simp
  refine codeAny_mono (eq_53 (Q:=fun v s'=>v=.none∧Q (.ref (s.heap.objs.size+1)) s') (E:=E) G B hx ha.under hg st1 ⟨_,_,rfl,⟨_,hl,rfl⟩,f1.vreps rv⟩ fun pv σ' v as' s' k f st' r=>?_) fun r s' h=>?_
  ·obtain⟨rfl,k⟩:=eq_309 k
   ·obtain rfl:v=.none:=r
    exact⟨rfl,t _ σ' _ as' s' k (f1.trans f) st' ⟨_,f.prefix _ _ hl,rfl⟩⟩
  ·rcases r with e | (v | _ | _ | _)<;>first | exact h | exact h.elim
theorem eq_612 {f:Nat}{x:T}{n:Str}{np pos:Pos}{es:List Expr}(P:fH cx Φ d)(hd:(n==("__debug__" : Str))=false)(hg:ig (nm.lookup n)=true)(he:nsIn cx.K mainGlobals n=some (some (.ref (bN cx f))))(hk:keepIn cx.K (.ref (bN cx f))=true)
  (hs:bp es=true)(h:ly cx Φ d nm x es):SE cx Φ d nm (.call f x) (.Call (.Name n np) es [] pos):=fun ρ σ K A env h₀ ov as s Q E hx H t=>by
 refine wpAny_Call_ofName (eq_139 H hd hg he ?_)
 refine eq_20 (first:=[]) hk hs h hx H fun pvs σ' vs as' s' k f st r=>?_
 exact P _ pvs σ' K A h₀ ov as' s' vs Q E k H.a.ab H.gd st r (t.fw f)
theorem eq_613 (ok:TabOk cx)(P:fH cx Φ d)(hlt:∀ c x f,cx.P.tab.meth c x=some f→f<1000){y xs:T}{x:Nat}{o:Expr}{n:Str}{apos pos:Pos}{es:List Expr}(hn:aJ x=n)(hb:du o=true)(hs:bp es=true)(hl:es.length<30)(hline:(apos.endLine==pos.line)=true)
  (h1:SE cx Φ d nm y o)(h:ly cx Φ d nm xs es):SE cx Φ d nm (.met y x xs) (.Call (.Attribute o n apos) es [] pos):=fun ρ σ K A env h₀ ov as s Q E hx H t=>by
 subst hn
 refine eq_286 (eq_153 hb) hs hl hline ?_
 refine h1 ρ σ _ A env h₀ ov as s _ E hx H fun pv σ1 v as1 s1 k1 f1 st1 r1=>?_
 ·obtain⟨c,hc,k1⟩:=rf k1
  ·obtain⟨f,hf,k1⟩:=rf k1
   cases hsh:c.2.any (·==x) with
   | true=>rw[hsh] at k1;exact k1.elim
   | false=>
   rw[hsh] at k1
   have k1:evsP cx.P.tab Φ xs ρ σ1 fun vs σ=>Φ f (pv::vs) σ K:=k1
   obtain⟨sv,M⟩:=ok.meth c.1 x f hf
   obtain⟨vs0,a,dx,g,rfl,e1,⟨es0,k0,e2,_,hent,hg⟩,fr,_⟩:=eq_274 st1 r1 hc
   have X:=H.gd.X.keeps st1.keep
   have hsf:bN cx f=cx.fa f:=by unfold bN;rw[show Nat.blt f 1000=true from Nat.ble_eq_true_of_le (hlt _ _ _ hf)];rfl
   intro pl
   have I:=eq_147 e1 e2
   refine method_fn X I (plainGet_of M.get).1 (plainGet_of M.get).2 M.find M.isF ?_ ?_
   ·unfold shadowIn
    dsimp only
    rw[lookIn_dict,hg,eq_84 sv fr hsh];rfl
   ·refine eq_20 (first:=[.ref a]) M.keep hs h k1 (H.next f1 st1) fun pvs σ' vs as' s' k f' st r=>?_
    have:=P f (pv::pvs) σ' K A h₀ ov as' s' (.ref a::vs) Q E k H.a.ab H.gd st ⟨_,_,rfl,f'.vrep r1,r⟩ (t.fw (f1.trans f'))
    rwa [hsf] at this
end
end Mine
end
section
namespace Mine
open PySem PySem.W PySem.Calls PyProof.Rows PySem.Spec
theorem sq {x:Nat}{v:PV}{ρ:aN}{y:Nat}:(de x v ρ).lookup y=if y=x then some v else ρ.lookup y:=by
 have go:∀ ρ:aN,List.lookup y ((x,v)::ρ)=if y=x then some v else ρ.lookup y:=fun ρ=>by
  rw[List.lookup_cons]
  by_cases h:y=x
  ·rw[if_pos h,beq_iff_eq.mpr h]
  ·rw[if_neg h,beq_eq_false_iff_ne.mpr h]
 induction ρ with
 | nil=>exact go []
 | cons a ρ ih=>
  show List.lookup y (bif a.1==x then (x,v)::ρ else a::de x v ρ)=_
  cases hz:a.1==x with
  | true=>
   refine(go ρ).trans ?_
   by_cases h:y=x
   ·rw[if_pos h,if_pos h]
   ·rw[if_neg h,if_neg h,List.lookup_cons,beq_eq_false_iff_ne.mpr fun e=>h (e.trans (eq_of_beq hz))]
  | false=>
   rw[cond_false,List.lookup_cons,List.lookup_cons,ih]
   cases q:y==a.1 with
   | true=>exact(if_neg fun e=>by rw[← eq_of_beq q,e,beq_self_eq_true] at hz;exact ff hz.symm).symm
   | false=>rfl
theorem eq_614 {h:Heap}{a:Addr}{m m':Str→Option Value}(x:h.Ns a m)(y:h.Ns a m')(n:Str):m n=m' n:=by
 obtain⟨o,es,ep,e1,e2,_,e3⟩:=x
 obtain⟨o',es',ep',e1',e2',_,e3'⟩:=y
 rw[e1] at e1'
 cases e1'
 rw[e2] at e2'
 cases e2'
 exact(e3 n).symm.trans (e3' n)
section
variable {cx:Cx}{Φ:b9}{d:Nat}{nm:List (Str×NameKind)}{ρ ρ':aN}{σ:ak}{A:Around}{env:Env}{h₀:Heap}{ov nw own:List Addr}{as as' as'':List (Addr×Addr)}{s s' s'':Shared}
theorem EnvR.congr (r:EnvR cx nm env ρ ov as s.heap)(h:∀ x,ρ'.lookup x=ρ.lookup x):EnvR cx nm env ρ' ov as s.heap:=
 {r with vals:=fun x v k sx hl hk hq=>r.vals x v k sx ((h x).symm.trans hl) hk hq}
theorem Fs.refl:Fs own as as s s:=(Fw.refl as s).fs
theorem eq_310 {own:List Addr}{x:Nat}{n:Str}(hL:env.locals∈own)(hC:∀ c,nm.lookup n=some .cell→env.cells.lookup n=some c→c∈own)(H:Here cx d nm ρ σ A env h₀ ov as s){pv:PV}{v:Value}(sx:bc x=true)(hx:aJ x=n)(hk:nm.lookup n=some .local∨nm.lookup n=some .cell)(rv:az cx s.heap (Fz ov as) as pv v){Q:Unit→Shared→Prop} {E}
  (q:∀ s',Fs own as as s s'→Here cx d nm (de x pv ρ) σ A env h₀ ov as s'→Q () s'):wpAny (model cx.prog cx.w) A (storeName env n v) Q E s:=by
 subst hx
 have kd:∀ n,env.kindOf n=nm.lookup n:=fun n=>by unfold Env.kindOf;rw[H.env.names]
 have R:=H.env
 obtain⟨m,hm⟩:=R.lo
 have fin:∀ (c:Addr)(h':Heap) (tk:Nat),c∈own→c∈ov→Heap.SameBut c s.heap h'→(∃ o,h'.get? c=some o)→EnvR cx nm env (de x pv ρ) ov as h'→Q () {s with heap:=h',toks:=tk}:=fun c h' tk hc hov hs hal ER=>by
  have kp:∀ b o,b∉ov→s.heap.get? b=some o→h'.get? b=some o:=fun b o hb e=>rl hs (fun q=>hb (q▸hov)) e
  have lv:∀ b o,s.heap.get? b=some o→∃ y,h'.get? b=some y:=fun b o e=>by
   by_cases q:b=c
   ·refine q▸?_;exact hal
   ·exact⟨o,rl hs q e⟩
  refine q _ ⟨⟨[],by simp,fun J h=>nomatch h⟩,fun b o hb J e=>rl hs (fun q=>hb (q▸hc)) e,lv,h',tk,rfl⟩ ⟨H.a,H.gd,?_,ER⟩
  exact H.st.over kp fun b hb=>let ⟨o,e⟩:=H.st.ovIn b hb;lv b o e
 have mvo:∀ {c:Addr}{h':Heap},c∈ov→Heap.SameBut c s.heap h'→Mv s.heap h' (Fz ov as) (Fz ov as):=fun hov hs b o f e=>⟨f,rl hs (fun q=>f.1 (q▸hov)) e⟩
 have ap:∀ n c,env.cells.lookup n=some c→c≠env.locals:=fun n c hc e=>by
  obtain⟨v0,o,e1,e2⟩:=R.cIs n c hc
  obtain⟨o',es,ep,e3,e4,_⟩:=hm
  rw[e,e3] at e1
  cases e1
  rw[e4] at e2;cases e2
 rcases hk with hk | hk
 ·refine wpAny_storeName_local ((kd _).trans hk) hm (fun h' hn hs=>?_) (by refine R.kind▸?_;rfl)
  refine fin env.locals h' _ hL R.loOv hs (let ⟨o,_,_,e,_⟩:=hn;⟨o,e⟩) {R with
   lo:=⟨_,hn⟩
   cIs:=fun n c hc=>let ⟨v0,o,e1,e2⟩:=R.cIs n c hc;⟨v0,o,rl hs (ap n c hc) e1,e2⟩
   vals:=fun y w k sy hl hk' hq=>?_}
  rw[sq] at hl
  by_cases q:y=x
  ·subst q
   rw[if_pos rfl] at hl
   cases hl
   exact⟨v,.inl ⟨hk,_,hn,by simp⟩,rv.mv (mvo R.loOv hs) (cB.refl _)⟩
  ·rw[if_neg q] at hl
   obtain⟨u,hu,ru⟩:=R.vals y w k sy hl hk' hq
   refine⟨u,?_,ru.mv (mvo R.loOv hs) (cB.refl _)⟩
   have ne:aJ y≠aJ x:=fun e=>q (sQ (eq_79 sy) sx e)
   rcases hu with ⟨a,m',hm',e⟩ | ⟨a,c,hc,o,e1,e2⟩
   ·refine .inl ⟨a,_,hn,?_⟩
    rw[if_neg ne]
    rw[eq_614 hm hm' (aJ y)];exact e
   ·exact .inr ⟨a,c,hc,o,rl hs (ap _ c hc) e1,e2⟩
 ·obtain⟨c,hc⟩:=R.kinds _ (.inl hk)
  obtain⟨v0,hv0⟩:=R.cIs _ c hc
  have cov:=R.cOv _ c (rG hc)
  have cown:c∈own:=hC c hk hc
  refine wpAny_storeName_cell R.kind ((kd _).trans hk) hc hv0 (fun h' hn hs=>?_)
  have ne2:∀ n c',env.cells.lookup n=some c'→n≠aJ x→c'≠c:=fun n c' h hn e=>hn (name_of_addr R.apart (e▸rG h) (rG hc))
  refine fin c h' s.toks cown cov hs (let ⟨o,e,_⟩:=hn;⟨o,e⟩) {R with
   lo:=let ⟨o,es,ep,e,r⟩:=hm;⟨m,o,es,ep,rl hs (Ne.symm (ap _ c hc)) e,r⟩
   cIs:=fun n c' hc'=>by
    by_cases q:n=aJ x
    ·subst q;rw[hc] at hc';cases hc';exact⟨_,hn⟩
    ·obtain⟨v1,o,e1,e2⟩:=R.cIs n c' hc';exact⟨v1,o,rl hs (ne2 n c' hc' q) e1,e2⟩
   vals:=fun y w k sy hl hk' hq=>?_}
  rw[sq] at hl
  by_cases q:y=x
  ·subst q
   rw[if_pos rfl] at hl
   cases hl
   exact⟨v,.inr ⟨.inl hk,c,hc,hn⟩,rv.mv (mvo cov hs) (cB.refl _)⟩
  ·rw[if_neg q] at hl
   obtain⟨u,hu,ru⟩:=R.vals y w k sy hl hk' hq
   refine⟨u,?_,ru.mv (mvo cov hs) (cB.refl _)⟩
   have ne:aJ y≠aJ x:=fun e=>q (sQ (eq_79 sy) sx e)
   rcases hu with ⟨a,m',hm',e⟩ | ⟨a,c',hc',o,e1,e2⟩
   ·exact .inl ⟨a,m',(let ⟨o,es,ep,e,r⟩:=hm';⟨o,es,ep,rl hs (Ne.symm (ap _ c hc)) e,r⟩),e⟩
   ·exact .inr ⟨a,c',hc',o,rl hs (ne2 _ c' hc' ne) e1,e2⟩
theorem eq_94 (H:Here cx d nm ρ σ A env h₀ ov as s){x:Nat}{n:Str}{pv:PV}{v:Value}(sx:bc x=true)(hx:aJ x=n)(hk:nm.lookup n=some .local∨nm.lookup n=some .cell)(rv:az cx s.heap (Fz ov as) as pv v){Q:Unit→Shared→Prop} {E}
  (q:∀ s',Fs (c8 env) as as s s'→Here cx d nm (de x pv ρ) σ A env h₀ ov as s'→Q () s'):wpAny (model cx.prog cx.w) A (storeName env n v) Q E s:=
 eq_310 mem_cons_self (fun c J hc=>mem_cons_of_mem _ (List.mem_map.mpr ⟨(n,c),rG hc,rfl⟩)) H sx hx hk rv q
def S1 (cx:Cx)(Φ:b9) (d:Nat)(nm:List (Str×NameKind))(x:T)(st:Stmt):Prop:=
 ∀ ρ σ (K:KR) A env h₀ ov as s (Q:Flow→Shared→Prop) E,bu cx.P.tab Φ x ρ σ K→Here cx d nm ρ σ A env h₀ ov as s→
  (∀ r ρ' σ' fl as' s',K r ρ' σ'→Fs (c8 env) as as' s s'→Here cx d nm ρ' σ' A env h₀ ov as' s'→mt cx s'.heap (Fz ov as') as' fl r→Q fl s')→wpAny (model cx.prog cx.w) A (exec st env) Q E s
theorem eq_615:SS cx Φ d nm .nil []:=fun ρ σ K A env h₀ ov as s Q E hx H t=>wpAny_execs_nil (t .next ρ σ .next as s hx Fs.refl H rfl)
theorem eq_616 {x y:T}{st:Stmt}{r:List Stmt}(h1:S1 cx Φ d nm x st)(h2:SS cx Φ d nm y r):SS cx Φ d nm (.cons x y) (st::r):=fun ρ σ K A env h₀ ov as s Q E hx H t=>by
 refine wpAny_execs_cons (h1 ρ σ _ A env h₀ ov as s _ E hx H fun r ρ' σ' fl as' s' k f H' rr=>?_)
 cases r with
 | next=>
  obtain rfl:fl=.next:=rr
  exact h2 ρ' σ' K A env h₀ ov as' s' Q E k H' fun r ρ'' σ'' fl as'' s'' k' f' H'' rr'=>t r ρ'' σ'' fl as'' s'' k' (f.trans f') H'' rr'
 | ret v=>
  obtain⟨u,rfl,ru⟩:=rr
  exact t (.ret v) ρ' σ' _ as' s' k f H' ⟨u,rfl,ru⟩
theorem eq_617 {x:T}{e:Expr}{pos:Pos}(h:SE cx Φ d nm x e):S1 cx Φ d nm (.ret x) (.Return (some e) pos):=fun ρ σ K A env h₀ ov as s Q E hx H t=>by
 refine wpAny_Return_some (h ρ σ _ A env h₀ ov as s _ E hx H fun pv σ' v as' s' k f st r=>?_)
 exact t (.ret pv) ρ σ' _ as' s' k f.fs (H.next f st) ⟨v,rfl,r⟩
theorem eq_618 {x:T}{e:Expr}{pos:Pos}(hi:∀ env:Env,env.scope.kind=.function→interactive env=false)(hs:∀ env,swapsWith e none pos.line env=pure false)(h:SE cx Φ d nm x e):S1 cx Φ d nm (.exp x) (.Expr e pos):=fun ρ σ K A env h₀ ov as s Q E hx H t=>by
 refine wpAny_Expr_any (h ρ σ _ A env h₀ ov as s _ E hx H fun pv σ' v as' s' k f st r=>?_) (hi env H.env.kind) (hs env)
 exact t .next ρ σ' _ as' s' k f.fs (H.next f st) rfl
theorem eq_619 {c a b:T}{e:Expr}{body orelse:List Stmt}{pos:Pos}(h1:ed cx Φ d nm c e)(h2:SS cx Φ d nm a body)(h3:SS cx Φ d nm b orelse):S1 cx Φ d nm (.iff c a b) (.If e body orelse pos):=fun ρ σ K A env h₀ ov as s Q E hx H t=>by
 refine wpAny_If (h1.2 ρ σ _ A env h₀ ov as s _ E hx H fun bb σ' as' s' k f st=>?_)
 cases bb with
 | true=>exact h2 ρ σ' K A env h₀ ov as' s' Q E k (H.next f st) fun r ρ'' σ'' fl as'' s'' k' f' H'' rr'=>t r ρ'' σ'' fl as'' s'' k' (f.fs.trans f') H'' rr'
 | false=>exact h3 ρ σ' K A env h₀ ov as' s' Q E k (H.next f st) fun r ρ'' σ'' fl as'' s'' k' f' H'' rr'=>t r ρ'' σ'' fl as'' s'' k' (f.fs.trans f') H'' rr'
theorem eq_311 {x:Nat}{n:Str}{y:T}{e:Expr}{p pos:Pos}(sx:bc x=true)(hx':aJ x=n)(hk:nm.lookup n=some .local∨nm.lookup n=some .cell)(hs:∀ env:Env,env.scope.names=nm→env.scope.kind=.function→swapsWith e (some (.Name n p)) pos.line env=pure false)(h:SE cx Φ d nm y e) :
  S1 cx Φ d nm (.asg x y) (.Assign [.Name n p] e pos):=fun ρ σ K A env h₀ ov as s Q E hx H t=>by
 refine wpAny_Assign_Name (h ρ σ _ A env h₀ ov as s _ E hx H fun pv σ' v as' s' k f st r=>?_) (hs env H.env.names H.env.kind)
 refine eq_94 (H.next f st) sx hx' hk r fun s'' f' H'=>?_
 exact t .next _ σ' _ as' s'' k (f.fs.trans f') H' rfl
theorem eq_620 (ok:TabOk cx){o y:T}{x:Nat}{n:Str}{eo e:Expr}{p pos:Pos}(hx':aJ x=n)(hs:∀ env,swapsWith e (some (.Attribute eo n p)) pos.line env=pure false)(h1:SE cx Φ d nm y e)(h2:SE cx Φ d nm o eo) :
  S1 cx Φ d nm (.ata o x y) (.Assign [.Attribute eo n p] e pos):=fun ρ σ K A env h₀ ov as s Q E hx H t=>by
 subst hx'
 refine plainObj_wpAny_Assign_Attribute (h1 ρ σ _ A env h₀ ov as s _ E hx H fun pv σ1 v as1 s1 k1 f1 st1 r1=>?_) (hs env)
 refine h2 ρ σ1 _ A env h₀ ov as1 s1 _ E k1 (H.next f1 st1) fun po σ2 vo as2 s2 k2 f2 st2 r2=>?_
 ·obtain⟨σ',hσ,k2⟩:=rf k2
  refine eq_597 ok (H.gd.X.keeps st2.keep) st2 r2 (f2.vrep r1) hσ fun s' f' st'=>?_
  exact t .next ρ σ' _ as2 s' k2 ((f1.trans f2).trans f').fs (H.next ((f1.trans f2).trans f') st') rfl
theorem eq_621 {o i y:T}{eo ei e:Expr}{p pos:Pos}(hs:∀ env,swapsWith e (some (.Subscript eo ei p)) pos.line env=pure false)(h1:SE cx Φ d nm y e)(h2:SE cx Φ d nm o eo)(h3:SE cx Φ d nm i ei) :
  S1 cx Φ d nm (.asu o i y) (.Assign [.Subscript eo ei p] e pos):=fun ρ σ K A env h₀ ov as s Q E hx H t=>by
 refine wpAny_Assign_Subscript (h1 ρ σ _ A env h₀ ov as s _ E hx H fun pv σ1 v as1 s1 k1 f1 st1 r1=>?_) (hs env)
 refine h2 ρ σ1 _ A env h₀ ov as1 s1 _ E k1 (H.next f1 st1) fun po σ2 vo as2 s2 k2 f2 st2 r2=>?_
 refine h3 ρ σ2 _ A env h₀ ov as2 s2 _ E k2 (H.next (f1.trans f2) st2) fun pi σ3 vi as3 s3 k3 f3 st3 r3=>?_
 ·obtain⟨σ',hσ,k3⟩:=rf k3
  have f123:=(f1.trans f2).trans f3
  refine eq_604 st3 (f3.vrep r2) r3 ((f2.trans f3).vrep r1) hσ fun s' f' st'=>?_
  exact t .next ρ σ' _ as3 s' k3 (f123.trans f').fs (H.next (f123.trans f') st') rfl
theorem eq_622 {c b:T}{e:Expr}{body:List Stmt}{pos:Pos}(h1:ed cx Φ d nm c e)(h2:SS cx Φ d nm b body):S1 cx Φ d nm (.whl c b) (.While e body [] pos):=fun ρ σ K A env h₀ ov as s Q E hx H t=>by
 refine wpAny_While ?_
 refine codeAny_whileLoop (I:=fun n s'=>∃ ρ' σ' as',bj (fun ρ σ K=>bR cx.P.tab Φ c ρ σ (bK K)) (bu cx.P.tab Φ b) n ρ' σ' K∧Fs (c8 env) as as' s s'∧Here cx d nm ρ' σ' A env h₀ ov as' s') (fun n s1 I=>?_) dF ⟨ρ,σ,as,hx,Fs.refl,H⟩
 obtain⟨ρ1,σ1,as1,hw,f1,H1⟩:=I
 cases n with
 | zero=>exact hw.elim
 | succ n=>
  refine h1.2 ρ1 σ1 _ A env h₀ ov as1 s1 _ _ hw H1 fun bb σ2 as2 s2 k2 f2 st2=>?_
  cases bb with
  | true=>
   rw[if_pos rfl]
   refine h2 ρ1 σ2 _ A env h₀ ov as2 s2 _ _ k2 (H1.next f2 st2) fun r ρ3 σ3 fl as3 s3 k3 f3 H3 rr=>?_
   have f13:=(f1.trans f2.fs).trans f3
   cases r with
   | next=>
    obtain rfl:fl=.next:=rr
    exact⟨n,Nat.lt_succ_self _,ρ3,σ3,as3,k3,f13,H3⟩
   | ret v=>
    obtain⟨u,rfl,ru⟩:=rr
    exact t (.ret v) ρ3 σ3 _ as3 s3 k3 f13 H3 ⟨u,rfl,ru⟩
  | false=>
   rw[if_neg Bool.false_ne_true]
   refine wpAny_execs_nil ?_
   exact t .next ρ1 σ2 _ as2 s2 k2 (f1.trans f2.fs) (H1.next f2 st2) rfl
end
def dj (nm:List (Str×NameKind)) (x:Nat):Expr→Prop
 | .Name n _=>bc x=true∧aJ x=n∧(nm.lookup n=some .local∨nm.lookup n=some .cell)
 | _=>False
def cO (nm:List (Str×NameKind)):List Nat→List Expr→Prop
 | [],es=>es=[]
 | x::xs,es=>∃ e r,es=e::r∧dj nm x e∧cO nm xs r
noncomputable def ii:List Expr→List Str
 | []=>[]
 | .Name n _::r=>n::ii r
 | _::r=>ii r
def dG (nm:List (Str×NameKind)):Tg→Expr→Prop
 | .one x,e=>dj nm x e
 | .many xs,e=>∃ es k p,e=.Tuple es k p∧cO nm xs es
section
variable {cx:Cx}{Φ:b9}{d:Nat}{nm:List (Str×NameKind)}{ρ ρ':aN}{σ:ak}{A:Around}{env:Env}{h₀:Heap}{ov nw own:List Addr}{as as' as'':List (Addr×Addr)}{s s' s'':Shared}
theorem tK (t:EnvR cx nm env ρ ov as s.heap):∀ b∈c8 env,b∈ov:=fun b hb=>by
 rcases mem_cons.mp hb with rfl | hb
 ·exact t.loOv
 ·obtain⟨x,hx,rfl⟩:=List.mem_map.mp hb
  exact t.cOv x.1 x.2 hx
theorem Fs.mv' (x:Fs own as as' s s')(t:∀ b∈own,b∈ov):Mv s.heap s'.heap (Fz ov as) (Fz ov as'):=fun b o f e=>by
 have nb:b∉own:=fun hb=>f.1 (t b hb)
 refine⟨⟨f.1,?_⟩,x.kept b o nb f.2 e⟩
 obtain⟨nw,e1,n1⟩:=x.pre
 rw[e1]
 exact sP f.2 fun l hl=>⟨rh e (n1 l hl).1,rh e (n1 l hl).2⟩
theorem Fs.mv (x:Fs (c8 env) as as' s s')(t:EnvR cx nm env ρ ov as s.heap):Mv s.heap s'.heap (Fz ov as) (Fz ov as'):=x.mv' (tK t)
theorem Fs.prefix (x:Fs own as as' s s'):cB as as':=by obtain⟨nw,e,_⟩:=x.pre;rw[e];exact cB.app _ _
theorem eq_312 (hL:env.locals∈own)(H:Here cx d nm ρ σ A env h₀ ov as s){x:Nat}{e:Expr}{pv:PV}{v:Value}(hC:∀ n c,n∈ii [e]→nm.lookup n=some .cell→env.cells.lookup n=some c→c∈own)(hn:dj nm x e)(rv:az cx s.heap (Fz ov as) as pv v){Q:Unit→Shared→Prop} {E}
  (q:∀ s',Fs own as as s s'→Here cx d nm (de x pv ρ) σ A env h₀ ov as s'→Q () s'):wpAny (model cx.prog cx.w) A (assign e env v) Q E s:=by
 cases e with
 | Name n p=>exact wpAny_assign_Name (eq_310 hL (fun c h1 h2=>hC n c mem_cons_self h1 h2) H hn.1 hn.2.1 hn.2.2 rv q)
 | _=>exact hn.elim
theorem eq_313 {x:Nat}{e:Expr}(h:dj nm x e):∃ n p,e=.Name n p:=by
 cases e with
 | Name n p=>exact⟨n,p,rfl⟩
 | _=>exact h.elim
theorem eq_623 (hL:env.locals∈own)(hov:∀ b∈own,b∈ov){xs:List Nat}:∀ {es:List Expr}{pvs:List PV}{vs:List Value}{ρ:aN}{s:Shared},Here cx d nm ρ σ A env h₀ ov as s→(∀ n c,n∈ii es→nm.lookup n=some .cell→env.cells.lookup n=some c→c∈own)→cO nm xs es→VReps cx s.heap (Fz ov as) as pvs vs→pvs.length=xs.length→∀ {Q:Unit→Shared→Prop} {E},
  (∀ s',Fs own as as s s'→Here cx d nm (eG xs pvs ρ) σ A env h₀ ov as s'→Q () s')→wpAny (model cx.prog cx.w) A (assignInOrder ((assignEach es env).map (·.2)) vs) Q E s:=by
 induction xs with
 | nil=>
  intro es pvs vs ρ s H hC hn rv hl Q E q
  cases hn
  cases List.eq_nil_of_length_eq_zero hl
  exact wpAny_pure (q s Fs.refl H)
 | cons x xs ih=>
  intro es pvs vs ρ s H hC hn rv hl Q E q
  cases pvs with
  | nil=>cases hl
  | cons pv pvs=>
   obtain⟨e,r,rfl,n1,n2⟩:=hn
   obtain⟨v,vr,rfl,r1,r2⟩:=rv
   obtain⟨n,p,rfl⟩:=eq_313 n1
   show wpAny _ A (do holding vr (assign (.Name n p) env v);assignInOrder ((assignEach r env).map (·.2)) vr) Q E s
   refine wpAny_bind (wpAny_holding (eq_312 (e:=.Name n p) hL H (fun m c h=>hC m c (mem_singleton.mp (show m∈[n] from h)▸mem_cons_self)) n1 r1 fun s1 f1 H1=>?_))
   exact ih H1 (fun m c h=>hC m c (mem_cons_of_mem _ h)) n2 (r2.mv (f1.mv' hov) f1.prefix) (Nat.succ.inj hl) fun s2 f2 H2=>q s2 (f1.trans f2) H2
theorem eq_624 (env:Env){xs:List Nat}:∀ {es:List Expr},cO nm xs es→(assignEach es env).length=xs.length∧(assignEach es env).findIdx? (·.1)=none:=by
 induction xs with
 | nil=>exact fun h=>by cases h;exact⟨rfl,rfl⟩
 | cons x xs ih=>
  intro es hn
  obtain⟨e,r,rfl,n1,n2⟩:=hn
  obtain⟨n,p,rfl⟩:=eq_313 n1
  obtain⟨h1,h2⟩:=ih n2
  refine⟨congrArg (·+1) h1,?_⟩
  rw[show assignEach (.Name n p::r) env=(false,assign (.Name n p) env)::assignEach r env from rfl,List.findIdx?_cons,h2]
  rfl
theorem eq_314 {xs:List Nat}{pv:PV}{v:Value}(h:bo (.many xs) pv ρ=some ρ'){hh:Heap}{F:AP}(rv:az cx hh F as pv v):∃ t vs pvs,v=.ref t∧dr hh t (List.toArray vs)∧VReps cx hh F as pvs vs∧pvs.length=xs.length∧ρ'=eG xs pvs ρ:=by
 cases pv with
 | p d=>cases d with
  | tup ds=>
   obtain⟨hb,h⟩:=so h
   cases h
   obtain⟨a,vs,rfl,_,ht,rs⟩:=rv
   exact⟨a,vs,ds.map .p,rfl,ht,sa rs,length_map _ |>.trans (eq_of_beq hb),rfl⟩
  | _=>cases h
 | mix ws=>
  obtain⟨hb,h⟩:=so h
  cases h
  obtain⟨a,vs,rfl,_,ht,rs⟩:=rv
  exact⟨a,vs,ws,rfl,ht,rs,eq_of_beq hb,rfl⟩
 | _=>cases h
noncomputable def gX:Expr→List Str
 | .Tuple es _ _=>ii es
 | e=>ii [e]
theorem eq_315 (hL:env.locals∈own)(hov:∀ b∈own,b∈ov)(H:Here cx d nm ρ σ A env h₀ ov as s){tg:Tg}{e:Expr}{pv:PV}{v:Value}(hC:∀ n c,n∈gX e→nm.lookup n=some .cell→env.cells.lookup n=some c→c∈own)(hn:dG nm tg e)(hb:bo tg pv ρ=some ρ')(rv:az cx s.heap (Fz ov as) as pv v){Q:Unit→Shared→Prop} {E}
  (q:∀ s',Fs own as as s s'→Here cx d nm ρ' σ A env h₀ ov as s'→Q () s'):wpAny (model cx.prog cx.w) A (assign e env v) Q E s:=by
 cases tg with
 | one x=>
  cases hb
  refine eq_312 hL H (fun n c h=>hC n c ?_) hn rv q
  cases e<;>first | exact h | exact hn.elim
 | many xs=>
  obtain⟨es,k,p,rfl,hn⟩:=hn
  obtain⟨t,vs,pvs,rfl,⟨n,ht⟩,rs,hl,rfl⟩:=eq_314 hb rv
  obtain⟨h1,h2⟩:=eq_624 env hn
  refine wpAny_assign_Tuple H.a.hand ⟨_,ht,rfl,n,rfl⟩ (by rw[h1,size_toArray,rs.len,hl]) h2 fun h' he=>?_
  have kp:∀ b o,s.heap.get? b=some o→h'.get? b=some o:=fun b o e=>he b o (rh e (rp _)) e
  obtain⟨st',f'⟩:=H.st.kp kp s.toks
  have H':Here cx d nm ρ σ A env h₀ ov as {s with heap:=h'}:=H.next f' st'
  exact eq_623 hL hov H' hC hn (f'.vreps rs) hl fun s' f H''=>q s' (f'.fs.trans f) H''
theorem eq_316 (H:Here cx d nm ρ σ A env h₀ ov as s){tg:Tg}{e:Expr}{pv:PV}{v:Value}(hn:dG nm tg e)(hb:bo tg pv ρ=some ρ')(rv:az cx s.heap (Fz ov as) as pv v){Q:Unit→Shared→Prop} {E}
  (q:∀ s',Fs (c8 env) as as s s'→Here cx d nm ρ' σ A env h₀ ov as s'→Q () s'):wpAny (model cx.prog cx.w) A (assign e env v) Q E s:=
 eq_315 mem_cons_self (tK H.env) H (fun n c J J hc=>mem_cons_of_mem _ (List.mem_map.mpr ⟨(n,c),rG hc,rfl⟩)) hn hb rv q
theorem eq_317 {xs:List Nat}{es:List Expr}{k:Nat}{y:T}{e:Expr}{p pos:Pos}(hn:cO nm xs es)(hs:∀ env,swapsWithSole [.Tuple es k p] e pos.line env=pure false)
  (hw:∀ env:Env,env.scope.names=nm→env.scope.kind=.function→swappedStores [.Tuple es k p] e env=pure none)(h:SE cx Φ d nm y e) :
  S1 cx Φ d nm (.unp xs y) (.Assign [.Tuple es k p] e pos):=fun ρ σ K A env h₀ ov as s Q E hx H t=>by
 refine Assign_Tuple (h ρ σ _ A env h₀ ov as s _ E hx H fun pv σ' v as' s' k' f st r=>?_) (hs env) (hw env H.env.names H.env.kind)
 ·obtain⟨ρ',hb,k'⟩:=rf k'
  refine eq_316 (H.next f st) (tg:=.many xs) ⟨es,k,p,rfl,hn⟩ hb r fun s'' f' H'=>?_
  exact t .next ρ' σ' _ as' s'' k' (f.fs.trans f') H' rfl
theorem eq_625 {x1 x2:Nat}{n1 n2:Str}{p1 p2:Pos}{k:Nat}{y:T}{e:Expr}{p pos:Pos}(h1:dj nm x1 (.Name n1 p1))(h2:dj nm x2 (.Name n2 p2))(hne:(x1==x2)=false)(hs:∀ env,swapsWithSole [.Tuple [.Name n1 p1,.Name n2 p2] k p] e pos.line env=pure false)
  (hw:∀ env:Env,env.scope.names=nm→env.scope.kind=.function→swappedStores [.Tuple [.Name n1 p1,.Name n2 p2] k p] e env=pure (some [n1,n2]))(h:SE cx Φ d nm y e) :
  S1 cx Φ d nm (.unp [x1,x2] y) (.Assign [.Tuple [.Name n1 p1,.Name n2 p2] k p] e pos):=fun ρ σ K A env h₀ ov as s Q E hx H t=>by
 refine Assign_Tuple_swapped (h ρ σ _ A env h₀ ov as s _ E hx H fun pv σ' v as' s' k' f st r=>?_) (hs env) (hw env H.env.names H.env.kind)
 ·obtain⟨ρ',hb,k'⟩:=rf k'
  obtain⟨c,vs,pvs,rfl,⟨n,ht⟩,rs,hl,rfl⟩:=eq_314 hb r
  obtain⟨a,b,rfl⟩:∃ a b,pvs=[a,b]:=by
   rcases pvs with _ | ⟨a,_ | ⟨b,_ | ⟨c,pvs⟩⟩⟩
   ·cases hl
   ·cases hl
   ·exact⟨a,b,rfl⟩
   ·cases hl
  obtain⟨u,v,rfl,ra,rb⟩:=rs.two
  have key:=unpackItems_tuple (prog:=cx.prog) (w:=cx.w) (A:=A) (E:=E) (s:=s') (t:=c) (items:=[u,v].toArray) (Q:=fun items s₂=>wpAny (model cx.prog cx.w) A (assignInOrder (List.map (fun n=>bindName env n) [n1,n2].reverse) items.reverse) (fun x=>Q Flow.next) E s₂) H.a.hand ⟨_,ht,rfl,n,rfl⟩ (fun h' he=>?_)
  ·exact key
  ·have kp:∀ b o,s'.heap.get? b=some o→h'.get? b=some o:=fun b o e=>he b o (rh e (rp _)) e
   obtain⟨st',f'⟩:=st.kp kp s'.toks
   have H1:=H.next (f.trans f') st'
   show wpAny _ A (do holding [u] (bindName env n2 v);(do holding [] (bindName env n1 u);pure ())) _ E _
   refine wpAny_bind (wpAny_holding (wpAny_bindName (eq_94 H1 h2.1 h2.2.1 h2.2.2 (f'.vrep rb) fun s2 f2 H2=>?_)))
   refine wpAny_bind (wpAny_holding (wpAny_bindName (eq_94 H2 h1.1 h1.2.1 h1.2.2 ((f'.vrep ra).mv (f2.mv H1.env) f2.prefix) fun s3 f3 H3=>wpAny_pure ?_)))
   refine t .next _ σ' _ as' s3 k' (((f.trans f').fs.trans f2).trans f3) {H3 with env:=H3.env.congr fun z=>?_} rfl
   show (de x2 b (de x1 a ρ)).lookup z=_
   simp only[sq]
   by_cases q:z=x1
   ·subst q
    have:¬ z=x2:=by simpa using hne
    simp[this]
   ·simp[q]
end
end Mine
end
section
set_option genSizeOf false
set_option genCtorIdx false
set_option genInjectivity false
namespace Mine
open PySem PySem.W PySem.Calls PyProof.Rows PySem.Spec
section
variable {cx:Cx}{Φ:b9}{d:Nat}{nm:List (Str×NameKind)}{ρ ρ':aN}{σ:ak}{A:Around}{env:Env}{h₀:Heap}{ov nw own:List Addr}{as as' as'':List (Addr×Addr)}{s s' s'':Shared}
noncomputable abbrev n9:=Nat→List Addr→List (Addr×Addr)→Heap→Prop
structure Walk (cx:Cx)(target:Expr)(it:Value)(nw:List Addr)(pv:PV)(xs:List PV)(Inv:n9):Prop where
 step:∀ {A:Around}{h₀:Heap}{ov:List Addr}{as:List (Addr×Addr)}{σ:ak}{s:Shared}{i:Nat}{Qn:Shared→Prop}{Qs:VS}{E E':VS},
  A.handled=none→Inv i (nw++ov) as s.heap→St cx h₀ (nw++ov) as σ s.heap→(∀ j,pv=.ref j→bw σ (.ref j)=some xs)→
  (xs[i]?=none→∀ h' tk,(∀ b o,b∉nw→s.heap.get? b=some o→h'.get? b=some o)→Qn {s with heap:=h',toks:=tk})→
  (∀ x v h' tk,xs[i]?=some x→(∀ b o,b∉nw→s.heap.get? b=some o→h'.get? b=some o)→(∀ b∈nw,∃ o,h'.get? b=some o)→az cx h' (Fz (nw++ov) as) as x v→Inv (i+1) (nw++ov) as h'→Qs v {s with heap:=h',toks:=tk})→
  wpAny (model cx.prog cx.w) A (pyNext it) (fun r s₁=>match r with
   | none=>Qn s₁
   | some v=>wpAny (model cx.prog cx.w) A (letOwnedTupleGo target it v) (fun J s₂=>Qs v s₂) E' s₁) E s
 self:∀ {A:Around}{s:Shared} {i ov as}{Q:VS}{E:VS},Inv i ov as s.heap→Q it s→wpAny (model cx.prog cx.w) A (pyIter it) Q E s
 frame:∀ {i ov ov' as as' h h'},Inv i ov as h→Mv h h' (Fz ov as) (Fz ov' as')→cB as as'→(∀ b∈nw,∀ o,h.get? b=some o→h'.get? b=some o)→Inv i ov' as' h'
def jr (cx:Cx)(Φ:b9) (d:Nat)(nm:List (Str×NameKind))(te:Expr)(x:T)(e:Expr):Prop:=
 ∀ ρ σ (K:KP) A env h₀ ov as s (Q:VS) E,bR cx.P.tab Φ x ρ σ K→Here cx d nm ρ σ A env h₀ ov as s→(∀ pv σ,K pv σ→∃ xs,bw σ pv=some xs)→
  (∀ pv σ' it as' s' nw xs Inv,K pv σ'→bw σ' pv=some xs→(∀ b∈nw,s.heap.get? b=none)→Fw as as' s s'→St cx h₀ (nw++ov) as' σ' s'.heap→Walk cx te it nw pv xs Inv→Inv 0 (nw++ov) as' s'.heap→Q it s')→
  wpAny (model cx.prog cx.w) A (eval e env) (fun x s₁=>wpAny (model cx.prog cx.w) A (pyIter x) Q E s₁) E s
theorem eq_160 {target:Expr}{r:Addr}{v:Value}{o:Obj}{n:String}{vs:Array Value}(ho:s.heap.get? r=some o)(hc:o.cls=.type n)(hd:o.data=.fields vs)
  (hn:(["enumerate","zip","dict_itemiterator","dict_reverseitemiterator","odict_iterator","itertools.zip_longest","itertools.pairwise"].contains n)=false){Q:Unit→Shared→Prop} {E}(q:Q () s) :
  wpAny (model cx.prog cx.w) A (letOwnedTupleGo target (.ref r) v) Q E s:=by
 have inner:∀ es p,wpAny (model cx.prog cx.w) A (letOwnedTupleGo (.List es p) (.ref r) v) Q E s:=fun es p=>by
  cases v with
  | ref a=>
   refine wpAny_bind (wpAny_load ho ?_)
   rw[hc,hd]
   dsimp only
   rw[hn,Bool.false_and,if_neg Bool.false_ne_true]
   exact wpAny_pure q
  | _=>exact wpAny_pure q
 cases target with
 | Tuple es k p=>exact inner es p
 | List es p=>exact inner es p
 | _=>exact wpAny_pure q
theorem St.drop {h h':Heap}(t:St cx h₀ (nw++ov) as σ h)(ap:∀ b∈ov,b∉nw)(kp:∀ b x,b∉nw→h.get? b=some x→h'.get? b=some x):St cx h₀ ov as σ h' where
 keep:=fun b o e=>kp b o (fun hb=>rh e (t.ovOld b (mem_append_left _ hb)) rfl) (t.keep b o e)
 ovOld:=fun b hb=>t.ovOld b (mem_append_right _ hb)
 asOld:=t.asOld
 ovIn:=fun b hb=>let ⟨o,e⟩:=t.ovIn b (mem_append_right _ hb);⟨o,kp b o (ap b hb) e⟩
 ovAs:=fun b hb=>t.ovAs b (mem_append_right _ hb)
 apart:=t.apart
 len:=t.len
 cells:=fun i l c h1 h2=>by
  have lm:l∈as:=List.mem_iff_getElem?.mpr ⟨i,h1⟩
  exact(t.cells i l c h1 h2).mv (fun b o f e=>⟨⟨fun hb=>f.1 (mem_append_right _ hb),f.2⟩,kp b o (fun hb=>f.1 (mem_append_left _ hb)) e⟩) (cB.refl _)
   (fun o e=>kp _ _ (fun hb=>(t.ovAs _ (mem_append_left _ hb) l lm).1 rfl) e) (fun o e=>kp _ _ (fun hb=>(t.ovAs _ (mem_append_left _ hb) l lm).2 rfl) e)
theorem eq_95 {I:Addr}{h h':Heap}(x:Heap.ExtBut I h h'):∀ b o,b∉[I]→h.get? b=some o→h'.get? b=some o:=fun b o hb e=>x b o (fun q=>hb (by refine q▸?_;exact mem_cons_self)) e
theorem sU {h h':Heap}(kp:∀ b o,b∉nw→h.get? b=some o→h'.get? b=some o):Mv h h' (Fz (nw++ov) as) (Fz (nw++ov) as):=fun b o f e=>⟨f,kp b o (fun hb=>f.1 (mem_append_left _ hb)) e⟩
theorem eq_626 {te:Expr}{I l:Addr}{pv:PV}{xs:List PV}(hp:(∃ q,pv=.p (.lst q))∨∃ j,pv=.ref j)(hs:∀ q,pv=.p (.lst q)→xs=q.map .p) :
  Walk cx te (.ref I) [I] pv xs (fun i ov as h=>h.IsListIter I l i∧az cx h (Fz ov as) as pv (.ref l)∧l≠I) where
 step:=fun {A h₀ ov as σ s i Qn Qs E E'} hA inv st hq qn qs=>by
  obtain⟨hi,r,hne⟩:=inv
  have hseq:bw σ pv=some xs:=by
   rcases hp with ⟨q,rfl⟩ | ⟨j,rfl⟩
   ·rw[hs q rfl];rfl
   ·exact hq j rfl
  obtain⟨a,vs,e,rs,hh⟩:=eq_3 st r hseq
  cases e
  have hpl:s.heap.PlainList l (List.toArray vs):=by
   rcases hh with ⟨_,⟨q,rfl⟩ | ⟨q,rfl⟩⟩ | ⟨h,_⟩
   ·rcases hp with ⟨_,h⟩ | ⟨_,h⟩<;>cases h
   ·rcases hp with ⟨_,h⟩ | ⟨_,h⟩<;>cases h
   ·exact h
  have hl:=rs.len
  cases hx:xs[i]? with
  | none=>
   have hv:vs.toArray[i]?=none:=by
    rw[List.getElem?_toArray]
    exact List.getElem?_eq_none_iff.mpr (hl▸List.getElem?_eq_none_iff.mp hx)
   refine wpAny_pyNext_list_end hA hi hpl.isList hv fun h' he=>?_
   exact qn hx h' s.toks (eq_95 he)
  | some x=>
   obtain⟨u,hu,ru⟩:=eq_4 rs hx
   refine wpAny_pyNext_list_item hi hpl.isList (by simpa using hu) fun h' hi' hs'=>?_
   obtain⟨o,ho,hc,hd⟩:=id hi'
   refine eq_160 (s:={s with heap:=h'}) ho hc hd (by decide) ?_
   have kp:=eq_95 hs'.extBut
   exact qs x u h' s.toks hx kp (fun b hb=>by rw[mem_singleton.mp hb];exact⟨o,ho⟩) (ru.mv (sU kp) (cB.refl _)) ⟨hi',r.mv (sU kp) (cB.refl _),hne⟩
 self:=fun inv q=>wpAny_pyIter_listiter inv.1 q
 frame:=fun inv m p k=>⟨inv.1.at fun o e=>k I mem_cons_self o e,inv.2.1.mv m p,inv.2.2⟩
theorem eq_627 {te:Expr}{I l:Addr}{pv:PV}{xs:List PV}(hp:(∃ q,pv=.p (.tup q))∨∃ j,pv=.mix j)(hs:bw [] pv=some xs) :
  Walk cx te (.ref I) [I] pv xs (fun i ov as h=>h.IsTupleIter I l i∧az cx h (Fz ov as) as pv (.ref l)∧l≠I) where
 step:=fun {A h₀ ov as σ s i Qn Qs E E'} hA inv st hq qn qs=>by
  obtain⟨hi,r,hne⟩:=inv
  have hseq:bw σ pv=some xs:=by
   rcases hp with ⟨q,rfl⟩ | ⟨j,rfl⟩
   ·exact hs
   ·exact hs
  obtain⟨a,vs,e,rs,hh⟩:=eq_3 st r hseq
  cases e
  have hpl:s.heap.IsTuple l (List.toArray vs):=by
   rcases hh with ⟨⟨n,h⟩,_⟩ | ⟨_,⟨q,rfl⟩ | ⟨q,rfl⟩⟩
   ·exact⟨_,h,rfl,n,rfl⟩
   ·rcases hp with ⟨_,h⟩ | ⟨_,h⟩<;>cases h
   ·rcases hp with ⟨_,h⟩ | ⟨_,h⟩<;>cases h
  have hl:=rs.len
  cases hx:xs[i]? with
  | none=>
   have hv:vs.toArray[i]?=none:=by
    rw[List.getElem?_toArray]
    exact List.getElem?_eq_none_iff.mpr (hl▸List.getElem?_eq_none_iff.mp hx)
   refine wpAny_pyNext_tuple_end hA hi hpl hv fun h' he=>?_
   exact qn hx h' s.toks (eq_95 he)
  | some x=>
   obtain⟨u,hu,ru⟩:=eq_4 rs hx
   refine wpAny_pyNext_tuple_item hi hpl (by simpa using hu) fun h' hi' hs'=>?_
   obtain⟨o,ho,hc,hd⟩:=id hi'
   refine eq_160 (s:={s with heap:=h'}) ho hc hd (by decide) ?_
   have kp:=eq_95 hs'.extBut
   exact qs x u h' s.toks hx kp (fun b hb=>by rw[mem_singleton.mp hb];exact⟨o,ho⟩) (ru.mv (sU kp) (cB.refl _)) ⟨hi',r.mv (sU kp) (cB.refl _),hne⟩
 self:=fun inv q=>wpAny_pyIter_tupleiter inv.1 q
 frame:=fun inv m p k=>⟨(let ⟨o,e,q⟩:=inv.1;⟨o,k I mem_cons_self o e,q⟩),inv.2.1.mv m p,inv.2.2⟩
theorem Fw.old (f:Fw as as' s s'){b:Addr}(e:s'.heap.get? b=none):s.heap.get? b=none:=by
 cases q:s.heap.get? b with
 | none=>rfl
 | some o=>obtain⟨o',e'⟩:=f.live b o q;rw[e] at e';cases e'
theorem eq_628 {te:Expr}{x:T}{e:Expr}(h:SE cx Φ d nm x e):jr cx Φ d nm te x e:=fun ρ σ K A env h₀ ov as s Q E hx H hk t=>by
 refine h ρ σ K A env h₀ ov as s _ E hx H fun pv σ' v as' s' k f st r=>?_
 obtain⟨xs,hxs⟩:=hk pv σ' k
 obtain⟨a,vs,rfl,rs,hh⟩:=eq_3 st r hxs
 have fin:∀ (o:Obj)(Inv:n9),Walk cx te (.ref s'.heap.objs.size) [s'.heap.objs.size] pv xs Inv→(o.isFreed=false)→Inv 0 ([s'.heap.objs.size]++ov) as' (s'.heap.push o)→Q (.ref s'.heap.objs.size) {s' with heap:=s'.heap.push o}:=fun o Inv W hfr h0=>by
  have hn:∀ b∈[s'.heap.objs.size],s'.heap.get? b=none:=fun b hb=>by refine(mem_singleton.mp hb)▸?_;exact rp _
  have kp:∀ b x,s'.heap.get? b=some x→(s'.heap.push o).get? b=some x:=fun J J e=>Heap.get?_push_of_some _ e
  have f':=(st.kp kp s'.toks).2
  exact t pv σ' _ as' _ [s'.heap.objs.size] xs Inv k hxs (fun b hb=>f.old (hn b hb)) (f.trans f') (st.hide hn kp fun b hb=>by refine(mem_singleton.mp hb)▸?_;exact⟨_,Heap.get?_push_size _ hfr⟩) W h0
 have hlt:∀ {o:Obj},s'.heap.get? a=some o→a≠s'.heap.objs.size:=fun e=>rh e (rp _)
 have mvh:∀ (o:Obj),Mv s'.heap (s'.heap.push o) (Fz ov as') (Fz ([s'.heap.objs.size]++ov) as'):=fun o=>tC (fun b hb=>by refine(mem_singleton.mp hb)▸?_;exact rp _) fun J J e=>Heap.get?_push_of_some _ e
 rcases hh with ⟨ht,hp⟩ | ⟨hl,hp⟩
 ·refine iter_tuple ht.isTup (fin _ _ (eq_627 (l:=a) (by rcases hp with ⟨q,rfl⟩ | ⟨q,rfl⟩;exact .inl ⟨q,rfl⟩;exact .inr ⟨q,rfl⟩) (by rcases hp with ⟨q,rfl⟩ | ⟨q,rfl⟩<;>exact hxs)) rfl ?_)
  obtain⟨n,ho⟩:=ht
  exact⟨⟨_,Heap.get?_push_size _ rfl,rfl,rfl⟩,r.mv (mvh _) (cB.refl _),hlt ho⟩
 ·refine wpAny_pyIter_list hl.isList (fin _ _ (eq_626 (l:=a) (by rcases hp with ⟨q,rfl⟩ | ⟨q,rfl⟩;exact .inl ⟨q,rfl⟩;exact .inr ⟨q,rfl⟩) (fun q e=>by subst e;simp only[bw,Option.some.injEq] at hxs;exact hxs.symm)) rfl ?_)
  obtain⟨n,ho⟩:=hl
  exact⟨⟨_,Heap.get?_push_size _ rfl,rfl,rfl⟩,r.mv (mvh _) (cB.refl _),hlt ho⟩
theorem eq_318:∀ {n k i:Nat},i<n→(bz n k)[i]?=some (.p (.int ((k+i:Nat):Int)))
 | 0,_,_,h=>by lia
 | n+1,k,0,_=>by simp[bz]
 | n+1,k,i+1,h=>by
  simp only[bz,List.getElem?_cons_succ]
  rw[eq_318 (by exact Nat.le_of_succ_le_succ h)]
  congr 4;lia
theorem eq_319:∀ {n k:Nat},(bz n k).length=n
 | 0,_=>rfl
 | n+1,k=>by simp[bz,eq_319]
theorem eq_629 {te:Expr}{I:Addr}{n:Nat}:Walk cx te (.ref I) [I] (.mix (bz n 0)) (bz n 0) (fun i ov as h=>i≤n∧IsRangeIter h I (0+(i:Int)*1) ((n:Int) - i) 1) where
 step:=fun {A h₀ ov as σ s i Qn Qs E E'} hA inv st hq qn qs=>by
  have W:=Walks.range (prog:=cx.prog) (w:=cx.w) hA I 0 1 n
  obtain⟨hin,hi⟩:=inv
  by_cases h:i<n
  ·refine W.item i s _ _ h hi fun v h' tk hp hi' kp=>?_
   obtain⟨t1,rfl⟩:=hp
   have ho:h'.get? I=_:=hi'
   refine eq_160 (s:={s with heap:=h',toks:=tk}) ho rfl rfl (by decide) ?_
   exact qs (.p (.int ((0+i:Nat):Int))) _ h' tk (eq_318 h) kp (fun b hb=>by refine(mem_singleton.mp hb)▸?_;exact⟨_,ho⟩) ⟨t1,by congr 1;lia⟩ ⟨h,hi'⟩
  ·have e:i=n:=by lia
   subst e
   refine W.done s _ _ hi fun h' tk kp=>?_
   exact qn (by rw[List.getElem?_eq_none_iff,eq_319];exact Nat.le_refl _) h' tk kp
 self:=fun inv q=>wpAny_pyIter_rangeiter inv.2 q
 frame:=fun inv m p k=>⟨inv.1,k I mem_cons_self _ inv.2⟩
theorem eq_630 {n:Nat}(hz:n≤100000):Builtin.Range.small 0 (Int.ofNat n) 1=true:=by
 have e:(Int.ofNat n)=((n:Nat):Int):=rfl
 exact small_one (by decide) (by decide) (by lia) (by lia)
theorem eq_631 {te:Expr}{x:T}{e:Expr}{n:Str}{np pos:Pos}(B:BltAt cx nm n (.type "range"))(hs:cw e=true)(h:SE cx Φ d nm x e):jr cx Φ d nm te (.rng x) (.Call (.Name n np) [e] [] pos):=fun ρ σ K A env h₀ ov as s Q E hx H hk t=>by
 refine wpAny_Call_ofName (eq_80 H B.hd B.hg B.he B.hv B.hn ?_)
 refine eq_20 (x:=.cons x .nil) (first:=[]) B.hk (by simp[bp,hs]) (eq_43 hs h eq_82) (K:=fun vs σ=>d9 vs fun va=>bQ ((kB va).bind jS) fun n=>cond (Nat.ble n 100000) (K (.mix (bz n 0)) σ) False) hx H fun pvs σ' vs as' s' k0 f st r=>?_
 ·obtain⟨va,rfl,k1⟩:=sY k0
  obtain⟨n,e,k2⟩:=rf k1
  have hz:=(rt k2).1;have k:=(rt k2).2
  clear k0 k1 k2
  have hz:=Nat.le_of_ble_eq_true hz
  have e:va=.p (.int (Int.ofNat n)):=eq_89 e
  subst e
  obtain⟨u,rfl,ru⟩:=r.one
  obtain⟨tk,rfl⟩:=ru
  refine call_range_1 ?_
  obtain⟨st1,f1⟩:=st.kp (h':=s'.heap.push {cls:=.type "range",data:=.fields #[.int 0 s'.toks,.int (Int.ofNat n) tk,.int 1 (s'.toks+1)]}) (fun J J e=>Heap.get?_push_of_some _ e) (s'.toks+1+1)
  refine wpAny_pyIter_range (s:={s' with heap:=s'.heap.push _,toks:=s'.toks+1+1}) (IsRange.new _ _ _ _ _ _ _) (eq_630 hz) ?_
  have hsz:Builtin.Range.rangeSize 0 (Int.ofNat n) 1=n:=by
   rw[rangeSize_one];split<;>simp_all<;>lia
  refine hsz▸?_
  have hn:∀ b∈[(s'.heap.push {cls:=.type "range",data:=.fields #[.int 0 s'.toks,.int (Int.ofNat n) tk,.int 1 (s'.toks+1)]}).objs.size],(s'.heap.push {cls:=.type "range",data:=.fields #[.int 0 s'.toks,.int (Int.ofNat n) tk,.int 1 (s'.toks+1)]}).get? b=none:=fun b hb=>by rw[mem_singleton.mp hb];exact rp _
  have kp:∀ b x,(s'.heap.push {cls:=.type "range",data:=.fields #[.int 0 s'.toks,.int (Int.ofNat n) tk,.int 1 (s'.toks+1)]}).get? b=some x→((s'.heap.push {cls:=.type "range",data:=.fields #[.int 0 s'.toks,.int (Int.ofNat n) tk,.int 1 (s'.toks+1)]}).push {cls:=.type "range_iterator",data:=.fields #[rawInt 0,rawInt n,rawInt 1]}).get? b=some x:=fun J J e=>Heap.get?_push_of_some _ e
  obtain⟨_,f2⟩:=St.kp (s:={s' with heap:=s'.heap.push _,toks:=s'.toks+1+1}) st1 kp (s'.toks+1+1)
  refine t (.mix (bz n 0)) σ' _ as' _ _ (bz n 0) _ k rfl (fun b hb=>(f.trans f1).old (hn b hb)) ((f.trans f1).trans f2) (St.hide (s:={s' with heap:=s'.heap.push _,toks:=s'.toks+1+1}) st1 hn kp fun b hb=>by rw[mem_singleton.mp hb];exact⟨_,Heap.get?_push_size _ rfl⟩) eq_629 ⟨Nat.zero_le _,?_⟩
  have:=Heap.get?_push_size (s'.heap.push {cls:=.type "range",data:=.fields #[.int 0 s'.toks,.int (Int.ofNat n) tk,.int 1 (s'.toks+1)]}) (o:={cls:=.type "range_iterator",data:=.fields #[rawInt 0,rawInt n,rawInt 1]}) rfl
  simpa [IsRangeIter] using this
theorem sZ {vi:PV}{all:List PV}{R:Prop}(h:dE vi all σ R):(∀ j,vi=.ref j→bw σ (.ref j)=some all)∧R:=by
 cases vi with
 | ref i=>exact⟨fun j e=>by cases e;exact h.1,h.2⟩
 | p _=>exact⟨fun j e=>(nomatch e),h⟩
 | mix _=>exact⟨fun j e=>(nomatch e),h⟩
 | inst _ _ _=>exact⟨fun j e=>(nomatch e),h⟩
 | dct _ _=>exact⟨fun j e=>(nomatch e),h⟩
theorem EnvR.fw' (r:EnvR cx nm env ρ ov as s.heap)(t:∀ b∈ov,Cv as b)(x:Fw as as' s s')(hn:∀ b∈nw,s.heap.get? b=none):EnvR cx nm env ρ (nw++ov) as' s'.heap where
 names:=r.names
 kind:=r.kind
 glob:=r.glob
 bi:=r.bi
 lo:=let ⟨m,hm⟩:=r.lo;⟨m,x.ns (t _ r.loOv) hm⟩
 loOv:=mem_append_right _ r.loOv
 cOv:=fun n c h=>mem_append_right _ (r.cOv n c h)
 cIs:=fun n c hc=>let ⟨v,hv⟩:=r.cIs n c hc;⟨v,x.cell (t _ (r.cOv n c (rG hc))) hv⟩
 apart:=r.apart
 kinds:=r.kinds
 vals:=fun y v k sv hl hk hq=>by
  obtain⟨u,hu,hr⟩:=r.vals y v k sv hl hk hq
  refine⟨u,?_,hr.mv (fun b o f e=>⟨⟨fun hb=>(mem_append.mp hb).elim (fun q=>rh e (hn b q) rfl) f.1,(x.fz f e).2⟩,x.kept b o f.2 e⟩) x.prefix⟩
  rcases hu with ⟨a,m,hm,e⟩ | ⟨a,c,hc,hv⟩
  ·exact .inl ⟨a,m,x.ns (t _ r.loOv) hm,e⟩
  ·exact .inr ⟨a,c,hc,x.cell (t _ (r.cOv _ c (rG hc))) hv⟩
theorem EnvR.nwch {h h':Heap}(r:EnvR cx nm env ρ (nw++ov) as h)(lo:env.locals∈ov)(co:∀ n c,(n,c)∈env.cells→c∈ov)(ap:∀ b∈ov,b∉nw)(kp:∀ b o,b∉nw→h.get? b=some o→h'.get? b=some o):EnvR cx nm env ρ (nw++ov) as h':=
 have nl:=ap _ lo
 have nc:∀ n c,env.cells.lookup n=some c→c∉nw:=fun n c hc=>ap _ (co n c (rG hc))
 {r with
  lo:=let ⟨m,o,es,ep,e,q⟩:=r.lo;⟨m,o,es,ep,kp _ _ nl e,q⟩
  cIs:=fun n c hc=>let ⟨v,o,e,q⟩:=r.cIs n c hc;⟨v,o,kp _ _ (nc n c hc) e,q⟩
  vals:=fun y v k sv hl hk hq=>by
   obtain⟨u,hu,hr⟩:=r.vals y v k sv hl hk hq
   refine⟨u,?_,hr.mv (sU kp) (cB.refl _)⟩
   rcases hu with ⟨a,m,⟨o,es,ep,e,q⟩,e2⟩ | ⟨a,c,hc,o,e,q⟩
   ·exact .inl ⟨a,m,⟨o,es,ep,kp _ _ nl e,q⟩,e2⟩
   ·exact .inr ⟨a,c,hc,o,kp _ _ (nc _ c hc) e,q⟩}
theorem EnvR.unhide {h:Heap}(r:EnvR cx nm env ρ (nw++ov) as h)(lo:env.locals∈ov)(co:∀ n c,(n,c)∈env.cells→c∈ov):EnvR cx nm env ρ ov as h:=
 {r with
  loOv:=lo
  cOv:=co
  vals:=fun y v k sv hl hk hq=>by
   obtain⟨u,hu,hr⟩:=r.vals y v k sv hl hk hq
   exact⟨u,hu,hr.mv (tD _) (cB.refl _)⟩}
theorem Fs.over (x:Fs own as as' s s')(hn:∀ b∈nw,s.heap.get? b=none){h':Heap}(kp:∀ b y,b∉nw→s'.heap.get? b=some y→h'.get? b=some y) (tk:Nat):Fs own as as' s {s' with heap:=h',toks:=tk}:=by
 have nn:∀ b y,s.heap.get? b=some y→b∉nw:=fun b y e hb=>rh e (hn b hb) rfl
 refine⟨x.pre,fun b o hb c e=>kp b o (nn b o e) (x.kept b o hb c e),fun b o e=>?_,?_⟩
 ·obtain⟨o',e'⟩:=x.live b o e
  exact⟨o',kp b o' (nn b o e) e'⟩
 ·obtain⟨h1,t1,rfl⟩:=x.rest
  exact⟨h',tk,rfl⟩
theorem eq_632 {tg:Tg}{it b:T}{te ie:Expr}{body:List Stmt}{pos:Pos}(htg:dG nm tg te)(hf:∀ env (x:Value),foldedSetIterable ie env x=pure x)(h1:jr cx Φ d nm te it ie)(h2:SS cx Φ d nm b body) :
  S1 cx Φ d nm (.fro tg it b) (.For te ie body [] pos):=fun ρ σ K A env h₀ ov as s Q E hx H t=>by
 refine wpAny_For (h1 ρ σ _ A env h₀ ov as s _ E hx H (fun pv σ k=>?_) fun pv σ1 itv as1 s1 nw xs Inv k1 hxs hn f1 st1 W inv0=>?_) (hf env)
 ·obtain⟨_,e,_⟩:=rf k
  exact⟨_,e⟩
 rw[hxs] at k1
 have ap:∀ b∈ov,b∉nw:=fun b hb q=>by obtain⟨o,e⟩:=H.st.ovIn b hb;exact rh e (hn b q) rfl
 have lo:=H.env.loOv
 have co:=H.env.cOv
 have H1:Here cx d nm ρ σ1 A env h₀ (nw++ov) as1 s1:=⟨H.a,H.gd,st1,H.env.fw' H.st.ovAs f1 hn⟩
 obtain⟨I0,hI0⟩:∃ I0:Nat→Shared→Prop,I0=fun n s'=>∃ i ρ' σ' as',n=xs.length - i∧i≤xs.length∧hZ pv xs (fun x ρ σ K=>bQ (bo tg x ρ) fun ρ'=>bu cx.P.tab Φ b ρ' σ K) (xs.drop i) ρ' σ' K∧Fs (c8 env) as as' s s'∧Here cx d nm ρ' σ' A env h₀ (nw++ov) as' s'∧Inv i (nw++ov) as' s'.heap:=⟨_,rfl⟩
 refine codeAny_forLoop_any I0 (fun n s2 I=>?_) xs.length (by rw[hI0];exact⟨0,ρ,σ1,as1,rfl,Nat.zero_le _,k1,f1.fs,H1,inv0⟩)
 rw[hI0] at I
 obtain⟨i,ρ2,σ2,as2,rfl,hi,hfor,f2,H2,inv⟩:=I
 have hchk:(∀ j,pv=.ref j→bw σ2 (.ref j)=some xs):=by
  cases hd:xs.drop i with
  | nil=>rw[hd] at hfor;exact(sZ hfor).1
  | cons x r=>rw[hd] at hfor;exact(sZ hfor).1
 refine wpAny_mono (W.step (E':=notedBy (model cx.prog cx.w) A env fun e s'=>cameBackBy (model cx.prog cx.w) A env E e s') H.a.hand inv H2.st hchk
  (Qn:=fun s₁=>wpAny (model cx.prog cx.w) A (execs [] env) (fun f s₃=>Q f s₃) (notedBy (model cx.prog cx.w) A env fun e s'=>cameBackBy (model cx.prog cx.w) A env E e s') s₁)
  (Qs:=fun v s₁=>wpAny (model cx.prog cx.w) A (assign te env v) (fun J s₂=>wpAny (model cx.prog cx.w) A (execs body env) (fun f s₃=>match f with
      | .next | .cont=>∃ m,m<xs.length - i∧I0 m s₃
      | .brk=>Q .next s₃
      | .ret v=>Q (.ret v) s₃) (notedBy (model cx.prog cx.w) A env fun e s'=>cameBackBy (model cx.prog cx.w) A env E e s') s₂) (notedBy (model cx.prog cx.w) A env fun e s'=>cameBackBy (model cx.prog cx.w) A env E e s') s₁)
  (fun hx0 h' tk kp=>?_) (fun x v h' tk hx0 kp al rx inv'=>?_)) (fun r s₁ h=>?_) (fun J J h=>h)
 ·have hd:xs.drop i=[]:=by
   have:=List.getElem?_eq_none_iff.mp hx0
   exact List.drop_eq_nil_iff.mpr this
  rw[hd] at hfor
  have hfor:=(sZ hfor).2
  refine wpAny_execs_nil ?_
  have ER:=(H2.env.nwch lo co ap kp).unhide lo co
  exact t .next ρ2 σ2 .next as2 {s2 with heap:=h',toks:=tk} hfor (f2.over hn kp tk) ⟨H2.a,H2.gd,H2.st.drop ap kp,ER⟩ rfl
 ·have hd:xs.drop i=x::xs.drop (i+1):=by
   obtain⟨hlt,e⟩:=List.getElem?_eq_some_iff.mp hx0
   rw[← e]
   exact List.drop_eq_getElem_cons hlt
  have hlt:i<xs.length:=(List.getElem?_eq_some_iff.mp hx0).1
  rw[hd] at hfor
  have hfor:=(sZ hfor).2
  ·obtain⟨ρ3,hb,hfor⟩:=rf hfor
   have kpo:∀ b o,b∉nw++ov→s2.heap.get? b=some o→h'.get? b=some o:=fun b o hb e=>kp b o (fun q=>hb (mem_append_left _ q)) e
   have st3:St cx h₀ (nw++ov) as2 σ2 h':=H2.st.over kpo fun b hb=>by
    rcases mem_append.mp hb with q | q
    ·exact al b q
    ·obtain⟨o,e⟩:=H2.st.ovIn b hb
     exact⟨o,kp b o (ap b q) e⟩
   have H3:Here cx d nm ρ2 σ2 A env h₀ (nw++ov) as2 {s2 with heap:=h',toks:=tk}:=⟨H2.a,H2.gd,st3,H2.env.nwch lo co ap kp⟩
   have f3:=f2.over hn kp tk
   have own_nw:∀ b∈nw,b∉c8 env:=fun b hb hq=>by
    rcases mem_cons.mp hq with rfl | hq
    ·exact ap _ lo hb
    ·obtain⟨c,hc,rfl⟩:=List.mem_map.mp hq
     exact ap _ (co c.1 c.2 hc) hb
   refine eq_316 H3 htg hb rx fun s4 f4 H4=>?_
   refine h2 ρ3 σ2 _ A env h₀ (nw++ov) as2 s4 _ _ hfor H4 fun r ρ5 σ5 fl as5 s5 k5 f5 H5 rr=>?_
   have f35:=f4.trans f5
   have inv5:Inv (i+1) (nw++ov) as5 s5.heap:=W.frame inv' (f35.mv H3.env) f35.prefix fun b hb o e=>f35.kept b o (own_nw b hb) (H3.st.ovAs b (mem_append_left _ hb)) e
   cases r with
   | next=>
    obtain rfl:fl=.next:=rr
    exact⟨xs.length - (i+1),Nat.sub_succ_lt_self _ _ hlt,by rw[hI0];exact⟨i+1,ρ5,σ5,as5,rfl,hlt,k5,f3.trans f35,H5,inv5⟩⟩
   | ret v=>
    obtain⟨u,rfl,ru⟩:=rr
    refine t (.ret v) ρ5 σ5 _ as5 s5 k5 (f3.trans f35) ⟨H5.a,H5.gd,H5.st.weak,H5.env.unhide lo co⟩ ⟨u,rfl,ru.mv (tD _) (cB.refl _)⟩
 ·cases r with
  | none=>exact h
  | some v=>exact h
end
end Mine
end
section
namespace Mine
open PySem PySem.W PySem.Calls PyProof.Rows PySem.Spec
noncomputable def dH (ts:List Nat)(ρ:aN):aN:=ρ.filter fun p=>!ts.contains p.1
theorem eq_161 {f:Nat→Bool}:∀ {ρ:aN}{y:Nat},(ρ.filter fun p=>f p.1).lookup y=if f y=true then ρ.lookup y else none
 | [],y=>by simp
 | (z,w)::ρ,y=>by
  rw[List.filter_cons]
  by_cases hz:f z=true
  ·rw[if_pos hz,List.lookup_cons,List.lookup_cons,eq_161]
   by_cases h:y=z
   ·subst h;simp[hz]
   ·have:(y==z)=false:=by simpa using h
    rw[this]
  ·rw[if_neg hz,eq_161,List.lookup_cons]
   by_cases h:y=z
   ·subst h;simp[hz]
   ·have:(y==z)=false:=by simpa using h
    rw[this]
theorem eq_22 {ts:List Nat}{ρ:aN}{y:Nat}:(dH ts ρ).lookup y=if y∈ts then none else ρ.lookup y:=by
 unfold dH
 rw[eq_161 (f:=fun z=>!ts.contains z)]
 by_cases h:y∈ts
 ·have:ts.contains y=true:=List.contains_iff_mem.mpr h
  simp[h,this]
 ·have:ts.contains y=false:=by
   cases q:ts.contains y with
   | false=>rfl
   | true=>exact absurd (List.contains_iff_mem.mp q) h
  simp[h,this]
theorem eq_162:∀ {xs:List Nat}{vs:List PV}{ρ:aN}{y:Nat},y∉xs→(eG xs vs ρ).lookup y=ρ.lookup y
 | [],[],_,_,_=>rfl
 | [],_::_,_,_,_=>rfl
 | _::_,[],_,_,_=>rfl
 | x::xs,v::vs,ρ,y,h=>by
  simp only[mem_cons,not_or] at h
  show (eG xs vs (de x v ρ)).lookup y=_
  rw[eq_162 h.2,sq,if_neg h.1]
theorem eq_163:∀ {xs:List Nat}{vs:List PV}{ρ ρ':aN}{y:Nat},vs.length=xs.length→(y∉xs→ρ.lookup y=ρ'.lookup y)→(eG xs vs ρ).lookup y=(eG xs vs ρ').lookup y
 | [],[],ρ,ρ',y,_,h=>h (by simp)
 | [],_::_,_,_,_,hl,_=>by simp at hl
 | _::_,[],_,_,_,hl,_=>by simp at hl
 | x::xs,v::vs,ρ,ρ',y,hl,h=>by
  show (eG xs vs (de x v ρ)).lookup y=(eG xs vs (de x v ρ')).lookup y
  refine eq_163 (by simpa using hl) (fun hz=>?_)
  rw[sq,sq]
  by_cases q:y=x
  ·rw[if_pos q,if_pos q]
  ·rw[if_neg q,if_neg q];exact h (by simp[q,hz])
set_option tactic.hygienic true in
theorem eq_23 {tg:Tg}{v:PV}{ρ ρ':aN}(h:bo tg v ρ=some ρ'):(∀ y,y∉br tg→ρ'.lookup y=ρ.lookup y)∧∀ ρ0:aN,∃ ρ0',bo tg v ρ0=some ρ0'∧∀ y,(y∉br tg→ρ.lookup y=ρ0.lookup y)→ρ'.lookup y=ρ0'.lookup y:=by
 cases tg with
 | one x=>
  cases h
  refine⟨fun y hy=>?_,fun ρ0=>⟨_,rfl,fun y hy=>?_⟩⟩
  ·rw[sq,if_neg (by simpa [br] using hy)]
  ·rw[sq,sq]
   by_cases q:y=x
   ·rw[if_pos q,if_pos q]
   ·rw[if_neg q,if_neg q];exact hy (by simpa [br] using q)
 | many xs=>
  unfold bo at h ⊢
  dsimp only at h ⊢
  split at h
  ·rename_i ds
   cases hb:ds.length==xs.length with
   | false=>rw[hb] at h;cases h
   | true=>
    rw[hb] at h
    cases h
    exact⟨fun y hy=>eq_162 hy,fun ρ0=>⟨_,by simp[hb],fun y hy=>eq_163 (by simpa using hb) hy⟩⟩
  ·rename_i ws
   cases hb:ws.length==xs.length with
   | false=>rw[hb] at h;cases h
   | true=>
    rw[hb] at h
    cases h
    exact⟨fun y hy=>eq_162 hy,fun ρ0=>⟨_,by simp[hb],fun y hy=>eq_163 (by simpa using hb) hy⟩⟩
  ·cases h
set_option tactic.hygienic true in
theorem eq_164:∀ {names:List (Str×NameKind)}{h:Heap}{acc:List (Str×Addr)}{n:Str}{c:Addr},(n,c)∈cellsFrom h.objs.size names acc→(n,c)∈acc∨(h.objs.size≤c∧(pushCells h names).IsCell c none∧(n,NameKind.cell)∈names)
 | [],_,_,_,_,h=>.inl h
 | (m,k)::r,h,acc,n,c,hm=>by
  unfold cellsFrom at hm
  unfold pushCells
  split at hm
  ·rename_i hk
   rw[if_pos hk]
   have hk':k=.cell:=by simpa using hk
   have hs:(h.push {cls:=.type "cell",data:=.cell none}).objs.size=h.objs.size+1:=Heap.size_push ..
   rw[← hs] at hm
   rcases eq_164 hm with q | ⟨q1,q2,q3⟩
   ·rcases mem_cons.mp q with e | q
    ·cases e
     refine .inr ⟨Nat.le_refl _,⟨_,pushCells_keeps r _ _ _ (Heap.get?_push_size _ rfl),rfl⟩,?_⟩
     rw[hk'];exact mem_cons_self
    ·exact .inl q
   ·exact .inr ⟨by rw[hs] at q1;exact Nat.le_of_succ_le q1,q2,mem_cons_of_mem _ q3⟩
  ·rename_i hk
   rw[if_neg hk]
   rcases eq_164 hm with q | ⟨q1,q2,q3⟩
   ·exact .inl q
   ·exact .inr ⟨q1,q2,mem_cons_of_mem _ q3⟩
theorem eq_165:∀ {names:List (Str×NameKind)}{L:Nat}{acc:List (Str×Addr)},acc.Pairwise (fun x y=>x.2≠y.2)→(∀ x∈acc,x.2<L)→(cellsFrom L names acc).Pairwise (fun x y=>x.2≠y.2)
 | [],_,_,h,_=>h
 | (m,k)::r,L,acc,h,hl=>by
  unfold cellsFrom
  split
  ·refine eq_165 (List.pairwise_cons.mpr ⟨fun x hx=>?_,h⟩) fun x hx=>?_
   ·exact Nat.ne_of_gt (hl x hx)
   ·rcases mem_cons.mp hx with rfl | hx
    ·exact Nat.lt_succ_self _
    ·exact Nat.lt_succ_of_lt (hl x hx)
  ·exact eq_165 h hl
theorem eq_633 {M:Model}{A:Around}{E:VS}{s:Shared}{scope:Scope}{cl:List (Str×Addr)}{globals:Addr}{qual:Str}{env:Env}{Q:Env→Shared→Prop}
  (h:∀ h',(∀ b x,s.heap.get? b=some x→h'.get? b=some x)→h'.Ns s.heap.objs.size (fun J=>none)→(∀ n c,(n,c)∈cellsFrom (s.heap.objs.size+1) scope.names cl→(n,c)∈cl∨(s.heap.objs.size<c∧h'.IsCell c none∧(n,NameKind.cell)∈scope.names))→
   Q (newEnv scope s.heap.objs.size globals (cellsFrom (s.heap.objs.size+1) scope.names cl) qual none .none (some env) builtinsNs) {s with heap:=h'}) :
  wpAny M A (newFunctionEnv scope globals cl [] qual none .none (some env)) Q E s:=by
 simp only[newFunctionEnv,Option.isSome_some,if_true]
 refine wpAny_bind (wpAny_alloc ?_)
 refine wpAny_bind (wpAny_layCells _ (fun name kind cells=>by cases hkc:kind==NameKind.cell<;>simp[hkc]) _ _ _ _ ?_)
 have hs:(s.heap.push {cls:=.type "dict",data:=.dict #[]}).objs.size=s.heap.objs.size+1:=Heap.size_push ..
 rw[show ({s with heap:=s.heap.push {cls:=.type "dict",data:=.dict #[]}}:Shared).heap.objs.size=s.heap.objs.size+1 from hs]
 refine wpAny_bind ?_
 rw[List.forIn_nil]
 refine wpAny_pure (wpAny_pure ?_)
 refine h _ (fun b x e=>pushCells_keeps _ _ b x (Heap.get?_push_of_some _ e)) ((Heap.Ns.new s.heap (.type "dict")).keeps (pushCells_keeps _ _)) fun n c hm=>?_
 rw[← hs] at hm
 rcases eq_164 hm with q | ⟨q1,q2,q3⟩
 ·exact .inl q
 ·exact .inr ⟨by rw[hs] at q1;exact q1,q2,q3⟩
section
variable {prog:Program}{w:World}{A:Around}{R:Result→Shared→Prop}{s:Shared}{env:Env}
theorem eq_634 {e te:Expr}{k:Nat}{p:Pos}{it acc:Value}{tail:Sem Fin}(hq:(Code.compLoop e k it acc env).quiet=true)
  (hden:∀ (s:Shared)(Q:Fin→Shared→Prop)(E:VS),wpAny (model prog w) A ((compTurn e k it acc env).onRaise (fun x=>do noteFrame x env;theTreesLotGoes x)) Q E s→
   wpAny (model prog w) (A.under (.compLoop e k it acc env)) ((model prog w).den (.compLoop e k it acc env)) Q E s)
  (hct:compTurn e k it acc env=(standAt p >>= fun J=>pyNext it >>= fun r=>match r with
   | none=>pure (.done .next)
   | some v=>letOwnedTupleGo te it v >>= fun J=>assign te env v >>= fun J=>tail))
  (I:Nat→Shared→Prop)
  (turn:∀ n s,I n s→∀ E':Value→Shared→Prop,wpAny (model prog w) A (pyNext it) (fun r s₁=>match r with
   | none=>R (.ok .next) s₁
   | some v=>wpAny (model prog w) A (letOwnedTupleGo te it v) (fun J s₁'=>wpAny (model prog w) A (assign te env v) (fun J s₂=>wpAny (model prog w) A tail (fun fin s₃=>fin=.again (.compLoop e k it acc env)∧∃ m,m<n∧I m s₃) E' s₂) E' s₁') E' s₁) E' s)
  (n:Nat)(h:I n s):codeAny (model prog w) A (.compLoop e k it acc env) R s:=by
 refine codeAny_loop hq I (fun n s hI=>hden _ _ _ ?_) n h
 refine wpAny_noted ?_
 rw[hct]
 refine wpAny_bind (wpAny_standAt (wpAny_bind (wpAny_mono (turn n s hI _) (fun r s₁ h₁=>?_) fun J J h'=>h')))
 cases r with
 | none=>exact wpAny_pure h₁
 | some v=>
  refine wpAny_bind (wpAny_mono h₁ (fun J s₂ h₂=>wpAny_bind (wpAny_mono h₂ (fun J s₃ h₃=>wpAny_mono h₃ (fun fin s₄ h₄=>?_) fun J J h'=>h') fun J J h'=>h')) fun J J h'=>h')
  obtain⟨rfl,h₄⟩:=h₄
  exact⟨rfl,h₄⟩
theorem eq_635 (elt te ie:Expr)(ifs:List Expr)(scope:Scope)(pos:Pos)(it acc:Value)(env:Env) :
  compTurn (.ListComp elt [⟨te,ie,ifs,0⟩] scope pos) 0 it acc env=(standAt ie.pos >>= fun J=>pyNext it >>= fun r=>match r with
   | none=>pure (.done .next)
   | some v=>letOwnedTupleGo te it v >>= fun J=>assign te env v >>= fun J=>
    (forIn ifs true fun c r=>if r=true then do let ok ← isTrue c env (eval c env);pure (ForInStep.yield ok) else pure (ForInStep.yield r)) >>= fun ok=>
     if ok then (eval elt env >>= fun x=>call (.builtin "list.append") [acc,x] >>= fun J=>pure ()) >>= fun J=>again (.compLoop (.ListComp elt [⟨te,ie,ifs,0⟩] scope pos) 0 it acc env)
     else again (.compLoop (.ListComp elt [⟨te,ie,ifs,0⟩] scope pos) 0 it acc env)):=by rfl
theorem eq_636 (elt t1 i1 t2 i2:Expr)(scope:Scope)(pos:Pos)(it acc:Value)(env:Env) :
  compTurn (.ListComp elt [⟨t1,i1,[],0⟩,⟨t2,i2,[],0⟩] scope pos) 0 it acc env=(standAt i1.pos >>= fun J=>pyNext it >>= fun r=>match r with
   | none=>pure (.done .next)
   | some v=>letOwnedTupleGo t1 it v >>= fun J=>assign t1 env v >>= fun J=>
    eval i2 env >>= fun x=>standAt i2.pos >>= fun J=>foldedSetIterable i2 env x >>= fun x=>holding [x] (pyIter x) >>= fun it2=>
     runOwn (.compStart (.ListComp elt [⟨t1,i1,[],0⟩,⟨t2,i2,[],0⟩] scope pos) 1 it2 acc env) env >>= fun J=>
      again (.compLoop (.ListComp elt [⟨t1,i1,[],0⟩,⟨t2,i2,[],0⟩] scope pos) 0 it acc env)):=by rfl
theorem eq_637 (elt t1 i1 t2 i2:Expr)(scope:Scope)(pos:Pos)(it acc:Value)(env:Env) :
  compTurn (.ListComp elt [⟨t1,i1,[],0⟩,⟨t2,i2,[],0⟩] scope pos) 1 it acc env=(standAt i2.pos >>= fun J=>pyNext it >>= fun r=>match r with
   | none=>pure (.done .next)
   | some v=>letOwnedTupleGo t2 it v >>= fun J=>assign t2 env v >>= fun J=>
    (eval elt env >>= fun x=>call (.builtin "list.append") [acc,x] >>= fun J=>pure ()) >>= fun J=>
      again (.compLoop (.ListComp elt [⟨t1,i1,[],0⟩,⟨t2,i2,[],0⟩] scope pos) 1 it acc env)):=by rfl
theorem eq_166 {e:Expr}{k:Nat}{it acc:Value}{g:Comprehension}(hg:(clausesOf e)[k]?=some g)(ha:g.is_async=0)
  (hden:∀ (s:Shared)(Q:Fin→Shared→Prop)(E:VS),wpAny (model prog w) A ((compStart e k it acc env).onRaise (fun x=>do noteFrame x env;standAt theWindowsPlace)) Q E s→
   wpAny (model prog w) (A.under (.compStart e k it acc env)) ((model prog w).den (.compStart e k it acc env)) Q E s)
  (hq:(Code.compLoop e k it acc env).quiet=true)(hself:∀ (Q:VS)(E:VS),Q it s→wpAny (model prog w) A (pyIter it) Q E s)
  (h:codeAny (model prog w) A (.compLoop e k it acc env) R s) :
  codeAny (model prog w) A (.compStart e k it acc env) R s:=by
 refine codeAny_of_tree (hden _ _ _ ?_)
 refine wpAny_notedAt ?_
 unfold compStart
 have h0:(((clausesOf e)[k]?).elim false (·.is_async != 0))=false:=by rw[hg];simp[ha]
 rw[h0]
 show wpAny _ _ (ask >>= _) _ _ s
 refine wpAny_bind (wpAny_askSetting ?_)
 split
 ·first
   | exact wpAny_bind (wpAny_pure (wpAny_pure (And.intro hq h)))
   | exact wpAny_pure (And.intro hq h)
 ·rw[hg]
  first
   | exact wpAny_bind (wpAny_rule (wpAny_bind (wpAny_standAt (wpAny_bind (hself _ _ (wpAny_pure (And.intro hq h)))))))
end
end Mine
end
section
set_option genSizeOf false
set_option genCtorIdx false
set_option genInjectivity false
namespace Mine
open PySem PySem.W PySem.Calls PyProof.Rows PySem.Spec
noncomputable def iR (nm:List (Str×NameKind))(n:Str)(k:NameKind):NameKind:=if k==.free&&nm.lookup n==some .cell then .cell else k
noncomputable def aV (nm:List (Str×NameKind)):List (Str×NameKind)→List (Str×NameKind)
 | []=>[]
 | (n,k)::r=>(n,iR nm n k)::aV nm r
noncomputable def ij:List Str→Bool
 | []=>true
 | x::r=>!r.any (·==x)&&ij r
theorem eq_167:∀ {l:List Str},ij l=true→l.Nodup
 | [],_=>List.nodup_nil
 | x::r,h=>by
  simp only[ij,Bool.and_eq_true,Bool.not_eq_true',List.any_eq_false] at h
  refine List.nodup_cons.mpr ⟨fun hm=>?_,eq_167 h.2⟩
  have:=h.1 x hm
  simp at this
noncomputable def cP (nm:List (Str×NameKind))(ts:List Nat)(sc:Scope):Bool:=
 sc.kind==.function&&(ij (sc.names.map (·.1))&&sc.names.all fun x=>match x.2 with
  | .local=>x.1==(".0" : Str)||ts.any fun y=>bc y&&aJ y==x.1
  | .cell=>x.1==(".0" : Str)||ts.any fun y=>bc y&&aJ y==x.1
  | .free=>match nm.lookup x.1 with
   | some .cell=>true
   | some .free=>true
   | _=>false
  | _=>true)
structure CompSc (nm:List (Str×NameKind))(ts:List Nat)(sc:Scope):Prop where
 kind:sc.kind=.function
 nd:(sc.names.map (·.1)).Nodup
 loc:∀ n k,(n,k)∈sc.names→k=.local∨k=.cell→n=(".0" : Str)∨∃ y∈ts,bc y=true∧aJ y=n
 free:∀ n,(n,NameKind.free)∈sc.names→nm.lookup n=some .cell∨nm.lookup n=some .free
theorem eq_96 {nm:List (Str×NameKind)}{ts:List Nat}{sc:Scope}(h:cP nm ts sc=true):CompSc nm ts sc:=by
 simp only[cP,Bool.and_eq_true,List.all_eq_true] at h
 obtain⟨h1,h2,h3⟩:=h
 refine⟨by simpa using h1,eq_167 h2,fun n k hm hk=>?_,fun n hm=>?_⟩
 ·have:=h3 _ hm
  rcases hk with rfl | rfl <;>
  ·simp only[Bool.or_eq_true,List.any_eq_true,Bool.and_eq_true,beq_iff_eq] at this
   exact this
 ·have:=h3 _ hm
  dsimp only at this
  split at this
  ·exact .inl (by assumption)
  ·exact .inr (by assumption)
  ·cases this
theorem eq_320 {nm:List (Str×NameKind)}:∀ {names:List (Str×NameKind)},(aV nm names).map (·.1)=names.map (·.1)
 | []=>rfl
 | (n,k)::r=>by simp[aV,eq_320]
theorem eq_321 {nm:List (Str×NameKind)}{n:Str}{k:NameKind}:∀ {names:List (Str×NameKind)},(n,k)∈names→(n,iR nm n k)∈aV nm names
 | (m,j)::r,h=>by
  rcases mem_cons.mp h with e | h
  ·cases e;exact mem_cons_self
  ·exact mem_cons_of_mem _ (eq_321 h)
theorem eq_97 {nm:List (Str×NameKind)}{n:Str}{k:NameKind}:∀ {names:List (Str×NameKind)},(n,k)∈aV nm names→∃ j,(n,j)∈names∧k=iR nm n j
 | (m,j)::r,h=>by
  rcases mem_cons.mp h with e | h
  ·cases e;exact⟨j,mem_cons_self,rfl⟩
  ·obtain⟨i,a,b⟩:=eq_97 h
   exact⟨i,mem_cons_of_mem _ a,b⟩
theorem eq_638 {nm:List (Str×NameKind)}{n:Str}{k:NameKind}(h:k≠.free):iR nm n k=k:=by
 unfold iR
 rw[if_neg]
 simp[h]
noncomputable def eH (cells:List (Str×Addr)):List (Str×NameKind)→List (Str×Addr)→List (Str×Addr)
 | [],acc=>acc
 | (n,k)::r,acc=>if k==.free then eH cells r ((n,(cells.lookup n).getD 0)::acc) else eH cells r acc
theorem eq_54:(NameKind.free==NameKind.free)=true:=rfl
theorem eq_168 {env:Env}{f:Str×NameKind→List (Str×Addr)→Sem (ForInStep (List (Str×Addr)))}(hf:∀ n k r,f (n,k) r=if (k==NameKind.free)=true then (do let c ← cellOf env n;pure (ForInStep.yield ((n,c)::r))) else pure (ForInStep.yield r)) :
  ∀ {names:List (Str×NameKind)}{acc:List (Str×Addr)},(∀ n,(n,NameKind.free)∈names→∃ c,env.cells.lookup n=some c)→(forIn names acc f:Sem (List (Str×Addr)))=pure (eH env.cells names acc)
 | [],acc,_=>by rw[List.forIn_nil];rfl
 | (n,k)::r,acc,h=>by
  rw[List.forIn_cons,hf]
  unfold eH
  by_cases hk:k=.free
  ·subst hk
   obtain⟨c,hc⟩:=h n mem_cons_self
   have ih:=eq_168 hf (names:=r) (acc:=(n,c)::acc) fun m hm=>h m (mem_cons_of_mem _ hm)
   rw[if_pos eq_54,if_pos eq_54,hc]
   have e:(some c).getD 0=c:=rfl
   rw[e,← ih]
   unfold cellOf
   rw[hc]
   rfl
  ·rw[if_neg (by simp[hk]),if_neg (by simp[hk])]
   exact eq_168 hf fun m hm=>h m (mem_cons_of_mem _ hm)
theorem eq_639 {env:Env}{scope:Scope}(h:∀ n,(n,NameKind.free)∈scope.names→∃ c,env.cells.lookup n=some c):closureFor scope env=pure (eH env.cells scope.names []):=by
 simp only[closureFor]
 rw[eq_168 (env:=env) (fun J J J=>rfl) h]
 rfl
theorem eq_55 {cells:List (Str×Addr)}{n:Str}{c:Addr}:∀ {names:List (Str×NameKind)}{acc:List (Str×Addr)},(n,c)∈eH cells names acc→(n,c)∈acc∨((n,NameKind.free)∈names∧c=(cells.lookup n).getD 0)
 | [],_,h=>.inl h
 | (m,k)::r,acc,h=>by
  unfold eH at h
  by_cases hk:k=.free
  ·subst hk
   rw[if_pos eq_54] at h
   rcases eq_55 h with h | ⟨h1,h2⟩
   ·rcases mem_cons.mp h with e | h
    ·cases e;exact .inr ⟨mem_cons_self,rfl⟩
    ·exact .inl h
   ·exact .inr ⟨mem_cons_of_mem _ h1,h2⟩
  ·rw[if_neg (by simp[hk])] at h
   rcases eq_55 h with h | ⟨h1,h2⟩
   ·exact .inl h
   ·exact .inr ⟨mem_cons_of_mem _ h1,h2⟩
theorem eq_169 {cells:List (Str×Addr)}{x:Str×Addr}:∀ {names:List (Str×NameKind)}{acc:List (Str×Addr)},x∈acc→x∈eH cells names acc
 | [],_,h=>h
 | (m,k)::r,acc,h=>by
  unfold eH
  split
  ·exact eq_169 (mem_cons_of_mem _ h)
  ·exact eq_169 h
theorem eq_98 {cells:List (Str×Addr)}{n:Str}:∀ {names:List (Str×NameKind)}{acc:List (Str×Addr)},(n,NameKind.free)∈names→(n,(cells.lookup n).getD 0)∈eH cells names acc
 | (m,k)::r,acc,h=>by
  unfold eH
  rcases mem_cons.mp h with e | h
  ·cases e
   refine(if_pos eq_54)▸?_
   exact eq_169 mem_cons_self
  ·split
   ·exact eq_98 h
   ·exact eq_98 h
theorem eq_170 {α:Type}{n:Str}{c:α}:∀ {l:List (Str×α)},(n,c)∈l→(l.lookup n).isSome=true
 | (m,k)::r,h=>by
  rw[List.lookup_cons]
  cases q:n==m with
  | true=>rfl
  | false=>
   rcases mem_cons.mp h with e | h
   ·cases e;simp at q
   ·exact eq_170 h
theorem eq_171 {cells:List (Str×Addr)}(hap:cells.Pairwise fun x y=>x.2≠y.2):∀ {names:List (Str×NameKind)}{acc:List (Str×Addr)},(names.map (·.1)).Nodup→(∀ n,(n,NameKind.free)∈names→∃ c,cells.lookup n=some c)→
  acc.Pairwise (fun x y=>x.2≠y.2)→(∀ x∈acc,x.1∉names.map (·.1)∧x∈cells)→(eH cells names acc).Pairwise fun x y=>x.2≠y.2
 | [],_,_,_,h,_=>h
 | (m,k)::r,acc,hn,hf,h,hl=>by
  rw[List.map_cons] at hn
  obtain⟨n1,n2⟩:=List.nodup_cons.mp hn
  have hl':∀ x∈acc,x.1∉r.map (·.1)∧x∈cells:=fun x hx=>⟨fun q=>(hl x hx).1 (mem_cons_of_mem _ q),(hl x hx).2⟩
  unfold eH
  by_cases hk:k=.free
  ·subst hk
   rw[if_pos eq_54]
   obtain⟨c,hc⟩:=hf m mem_cons_self
   refine hc▸?_
   refine eq_171 hap n2 (fun n hn=>hf n (mem_cons_of_mem _ hn)) (List.pairwise_cons.mpr ⟨fun x hx e=>?_,h⟩) fun x hx=>?_
   ·have e2:m=x.1:=name_of_addr hap (rG hc) (show (x.1,c)∈cells from(show (x.1,c)=x from by
     have:c=x.2:=e
     rw[this])▸(hl x hx).2)
    exact(hl x hx).1 (by rw[← e2];exact mem_cons_self)
   ·rcases mem_cons.mp hx with rfl | hx
    ·exact⟨n1,rG hc⟩
    ·exact hl' x hx
  ·rw[if_neg (by simp[hk])]
   exact eq_171 hap n2 (fun n hn=>hf n (mem_cons_of_mem _ hn)) h hl'
theorem eq_640 {names:List (Str×NameKind)}{n:Str}{k j:NameKind}(hn:(names.map (·.1)).Nodup)(h1:(n,k)∈names)(h2:(n,j)∈names):k=j:=by
 have a:=sT hn h1
 rw[sT hn h2] at a
 cases a;rfl
section
variable {cx:Cx}{Φ:b9}{d:Nat}{nm:List (Str×NameKind)}{ρ ρ':aN}{σ:ak}{A:Around}{env:Env}{h₀:Heap}{ov nw own:List Addr}{as as' as'':List (Addr×Addr)}{s s' s'':Shared}
theorem eq_641 {sc:Scope}(hk:env.scope.kind=.function)(hn:env.scope.names=nm):(relabel sc env).names=aV nm sc.names:=by
 have:∀ l:List (Str×NameKind),(l.map fun(n,k)=>if (k==.free&&env.scope.kind==.function&&env.kindOf n==some .cell) then (n,NameKind.cell) else (n,k))=aV nm l:=by
  intro l
  induction l with
  | nil=>rfl
  | cons x l ih=>
   obtain⟨n,k⟩:=x
   rw[List.map_cons,ih]
   congr 1
   delta iR Env.kindOf
   dsimp only
   rw[hk,hn]
   have:(ScopeKind.function==ScopeKind.function)=true:=rfl
   rw[this,Bool.and_true]
   split<;>rfl
 exact this sc.names
noncomputable def bD (sc:Scope)(env:Env)(L:Addr):Env:=
 {newEnv sc L env.globals (cellsFrom (L+1) sc.names (eH env.cells sc.names [])) env.qual none .none (some env) builtinsNs with scope:=relabel sc env}
noncomputable def b8 (sc:Scope)(env:Env)(L:Addr):List Addr:=L::((cellsFrom (L+1) sc.names (eH env.cells sc.names [])).filter fun x=>decide (L<x.2)).map (·.2)
set_option tactic.hygienic true in
theorem eq_642 {ts:List Nat}{sc:Scope}(ok:CompSc nm ts sc)(R:EnvR cx nm env ρ ov as s.heap)(t:St cx h₀ ov as σ s.heap){h':Heap}(kp:∀ b x,s.heap.get? b=some x→h'.get? b=some x)(hC:h'.Ns s.heap.objs.size fun J=>none)
  (hm:∀ n c,(n,c)∈cellsFrom (s.heap.objs.size+1) sc.names (eH env.cells sc.names [])→(n,c)∈eH env.cells sc.names []∨(s.heap.objs.size<c∧h'.IsCell c none∧(n,NameKind.cell)∈sc.names)) :
  (∀ b∈b8 sc env s.heap.objs.size,s.heap.get? b=none)∧(∀ b∈b8 sc env s.heap.objs.size,∃ o,h'.get? b=some o)∧
  EnvR cx (aV nm sc.names) (bD sc env s.heap.objs.size) (dH ts ρ) (b8 sc env s.heap.objs.size++ov) as h'∧
  (∀ n c,(bD sc env s.heap.objs.size).cells.lookup n=some c→(n,NameKind.free)∉sc.names→c∈b8 sc env s.heap.objs.size):=by
 have hfree:∀ n,(n,NameKind.free)∈sc.names→∃ c,env.cells.lookup n=some c:=fun n hn=>R.kinds n (ok.free n hn)
 have hcl:∀ n c,(n,c)∈eH env.cells sc.names []→(n,NameKind.free)∈sc.names∧env.cells.lookup n=some c:=fun n c h=>by
  rcases eq_55 h with h | ⟨h1,h2⟩
  ·cases h
  ·obtain⟨c',hc⟩:=hfree n h1
   rw[hc] at h2
   exact⟨h1,by rw[hc,h2];rfl⟩
 have hold:∀ n c,env.cells.lookup n=some c→c<s.heap.objs.size:=fun n c h=>by obtain⟨v,o,e,_⟩:=R.cIs n c h;exact Heap.lt_size e
 have mv:Mv s.heap h' (Fz ov as) (Fz (b8 sc env s.heap.objs.size++ov) as):=fun b o f e=>⟨⟨fun hb=>?_,f.2⟩,kp b o e⟩
 rotate_left
 ·rcases mem_append.mp hb with q | q
  ·have hlt:=Heap.lt_size e
   rcases mem_cons.mp q with rfl | q
   ·exact Nat.lt_irrefl _ hlt
   ·obtain⟨x,hx,rfl⟩:=List.mem_map.mp q
    have:=(List.mem_filter.mp hx).2
    simp only[decide_eq_true_eq] at this
    exact Nat.lt_asymm hlt this
  ·exact f.1 q
 have hfr:∀ b∈b8 sc env s.heap.objs.size,s.heap.objs.size≤b:=fun b hb=>by
  rcases mem_cons.mp hb with rfl | q
  ·exact Nat.le_refl _
  ·obtain⟨x,hx,rfl⟩:=List.mem_map.mp q
   have:=(List.mem_filter.mp hx).2
   simp only[decide_eq_true_eq] at this
   exact Nat.le_of_lt this
 have hown:∀ n c,(n,c)∈cellsFrom (s.heap.objs.size+1) sc.names (eH env.cells sc.names [])→s.heap.objs.size<c→c∈b8 sc env s.heap.objs.size:=fun n c h1 h2=>
  mem_cons_of_mem _ (List.mem_map.mpr ⟨(n,c),List.mem_filter.mpr ⟨h1,by simpa using h2⟩,rfl⟩)
 have hmem:∀ n c,(n,c)∈cellsFrom (s.heap.objs.size+1) sc.names (eH env.cells sc.names [])→(n,NameKind.free)∉sc.names→c∈b8 sc env s.heap.objs.size:=fun n c h1 h2=>by
  rcases hm n c h1 with q | ⟨q,_⟩
  ·exact absurd (hcl n c q).1 h2
  ·exact hown n c h1 q
 refine⟨fun b hb=>eq_159 (hfr b hb),fun b hb=>?_,?_,fun n c hc hf=>hmem n c (rG hc) hf⟩
 ·rcases mem_cons.mp hb with rfl | q
  ·obtain⟨o,_,_,e,_⟩:=hC;exact⟨o,e⟩
  ·obtain⟨x,hx,rfl⟩:=List.mem_map.mp q
   obtain⟨h1,h2⟩:=List.mem_filter.mp hx
   simp only[decide_eq_true_eq] at h2
   rcases hm x.1 x.2 h1 with q | ⟨_,⟨o,e,_⟩,_⟩
   ·exact absurd (hold _ _ (hcl _ _ q).2) (Nat.lt_asymm h2)
   ·exact⟨o,e⟩
 ·refine {
   names:=eq_641 R.kind R.names
   kind:=ok.kind
   glob:=R.glob
   bi:=R.bi
   lo:=⟨_,hC⟩
   loOv:=mem_append_left _ mem_cons_self
   cOv:=fun n c h=>?_
   cIs:=fun n c h=>?_
   apart:=?_
   kinds:=fun n h=>?_
   vals:=fun x v k sx hl hk hq=>?_}
  ·have h:(n,c)∈cellsFrom (s.heap.objs.size+1) sc.names (eH env.cells sc.names []):=h
   rcases hm n c h with q | ⟨q,_⟩
   ·exact mem_append_right _ (R.cOv n c (rG (hcl n c q).2))
   ·exact mem_append_left _ (hown n c h q)
  ·have h:(cellsFrom (s.heap.objs.size+1) sc.names (eH env.cells sc.names [])).lookup n=some c:=h
   rcases hm n c (rG h) with q | ⟨q,e,_⟩
   ·obtain⟨v,o,e,r⟩:=R.cIs n c (hcl n c q).2;exact⟨v,o,kp _ _ e,r⟩
   ·exact⟨_,e⟩
  ·refine eq_165 (eq_171 R.apart ok.nd hfree List.Pairwise.nil fun J h=>nomatch h) fun x hx=>?_
   exact Nat.lt_succ_of_lt (hold x.1 x.2 (hcl x.1 x.2 hx).2)
  ·have e:∃ j,(n,j)∈sc.names∧(j=.cell∨j=.free):=by
    rcases h with h | h
    ·obtain⟨j,h1,h2⟩:=eq_97 (rG h)
     refine⟨j,h1,?_⟩
     unfold iR at h2
     split at h2
     ·rename_i q;simp only[Bool.and_eq_true,beq_iff_eq] at q;exact .inr q.1
     ·exact .inl h2.symm
    ·obtain⟨j,h1,h2⟩:=eq_97 (rG h)
     refine⟨j,h1,?_⟩
     unfold iR at h2
     split at h2
     ·cases h2
     ·exact .inr h2.symm
   obtain⟨j,hj,hk⟩:=e
   have:((cellsFrom (s.heap.objs.size+1) sc.names (eH env.cells sc.names [])).lookup n).isSome=true:=by
    rcases hk with rfl | rfl
    ·exact eq_5 (.inl (sT ok.nd hj))
    ·exact eq_5 (.inr (eq_170 (eq_98 hj)))
   exact Option.isSome_iff_exists.mp this
  ·rw[eq_22] at hl
   split at hl
   ·cases hl
   ·rename_i hx
    obtain⟨j,h1,h2⟩:=eq_97 (rG hk)
    have nl:¬ (j=.local∨j=.cell):=fun q=>by
     rcases ok.loc _ _ h1 q with e | ⟨y,hy,sy,e⟩
     ·unfold oU at sx
      rw[e] at sx
      simp at sx
     ·exact hx (sQ sy (eq_79 sx) e▸hy)
    have hj:j=.free:=by
     unfold iR at h2
     split at h2
     ·rename_i q;simp only[Bool.and_eq_true,beq_iff_eq] at q;exact q.1
     ·rcases hq with rfl | rfl | rfl
      ·exact absurd (.inl h2.symm) nl
      ·exact absurd (.inr h2.symm) nl
      ·exact h2.symm
    subst hj
    obtain⟨c0,hc0⟩:=hfree _ h1
    have hkk:=ok.free _ h1
    have hk0:∃ k0,nm.lookup (aJ x)=some k0∧(k0=.local∨k0=.cell∨k0=.free):=by
     rcases hkk with h | h
     ·exact⟨_,h,.inr (.inl rfl)⟩
     ·exact⟨_,h,.inr (.inr rfl)⟩
    obtain⟨k0,e0,q0⟩:=hk0
    obtain⟨u,hu,ru⟩:=R.vals x v k0 sx hl e0 q0
    refine⟨u,.inr ⟨?_,?_⟩,ru.mv mv (cB.refl _)⟩
    ·rw[hk,h2]
     unfold iR
     split
     ·exact .inl rfl
     ·exact .inr rfl
    ·have:((cellsFrom (s.heap.objs.size+1) sc.names (eH env.cells sc.names [])).lookup (aJ x)).isSome=true:=eq_5 (.inr (eq_170 (eq_98 h1)))
     obtain⟨c,hc⟩:=Option.isSome_iff_exists.mp this
     refine⟨c,hc,?_⟩
     have hcc:env.cells.lookup (aJ x)=some c:=by
      rcases hm _ c (rG hc) with q | ⟨_,_,q⟩
      ·exact(hcl _ _ q).2
      ·exact absurd (eq_640 ok.nd q h1) (by decide)
     rcases hu with ⟨a,m,hm',e⟩ | ⟨a,c',hc',hv⟩
     ·rcases hkk with h | h<;>rw[h] at a<;>cases a
     ·rw[hcc] at hc'
      cases hc'
      obtain⟨o,e,q⟩:=hv
      exact⟨o,kp _ _ e,q⟩
end
section
variable {cx:Cx}{Φ:b9}{d:Nat}{nm nm':List (Str×NameKind)}{ρ ρ' ρb:aN}{σ:ak}{A:Around}{env cenv:Env}{h₀:Heap}{ov nw own:List Addr}{as as' as'':List (Addr×Addr)}{s s' s'':Shared}{la:Addr}
theorem EnvR.less (r:EnvR cx nm env ρ ov as s.heap)(h:∀ x v,ρ'.lookup x=some v→ρ.lookup x=some v):EnvR cx nm env ρ' ov as s.heap:=
 {r with vals:=fun x v k sx hl hk hq=>r.vals x v k sx (h x v hl) hk hq}
theorem Fs.mono {own own':List Addr}(x:Fs own as as' s s')(h:∀ b∈own,b∈own'):Fs own' as as' s s':=⟨x.pre,fun b o hb c e=>x.kept b o (fun q=>hb (h b q)) c e,x.live,x.rest⟩
theorem EnvR.fs (r:EnvR cx nm env ρ ov as s.heap)(t:St cx h₀ ov as σ s.heap)(x:Fs own as as' s s')(ho:∀ b∈own,b∈ov)(nl:env.locals∉own)(nc:∀ n c,env.cells.lookup n=some c→c∉own):EnvR cx nm env ρ ov as' s'.heap:=
 have kl:∀ o,s.heap.get? env.locals=some o→s'.heap.get? env.locals=some o:=fun o e=>x.kept _ o nl (t.ovAs _ r.loOv) e
 have kc:∀ n c o,env.cells.lookup n=some c→s.heap.get? c=some o→s'.heap.get? c=some o:=fun n c o hc e=>x.kept _ o (nc n c hc) (t.ovAs _ (r.cOv n c (rG hc))) e
 {names:=r.names
  kind:=r.kind
  glob:=r.glob
  bi:=r.bi
  lo:=let ⟨m,o,es,ep,e,q⟩:=r.lo;⟨m,o,es,ep,kl o e,q⟩
  loOv:=r.loOv
  cOv:=r.cOv
  cIs:=fun n c hc=>let ⟨v,o,e,q⟩:=r.cIs n c hc;⟨v,o,kc n c o hc e,q⟩
  apart:=r.apart
  kinds:=r.kinds
  vals:=fun y v k sv hl hk hq=>by
   obtain⟨u,hu,hr⟩:=r.vals y v k sv hl hk hq
   refine⟨u,?_,hr.mv (x.mv' ho) x.prefix⟩
   rcases hu with ⟨a,m,⟨o,es,ep,e,q⟩,e2⟩ | ⟨a,c,hc,o,e,q⟩
   ·exact .inl ⟨a,m,⟨o,es,ep,kl o e,q⟩,e2⟩
   ·exact .inr ⟨a,c,hc,o,kc _ c o hc e,q⟩}
theorem St.sub {ov':List Addr}{h:Heap}(t:St cx h₀ ov as σ h)(e:∀ b,b∈ov'→b∈ov):St cx h₀ ov' as σ h where
 keep:=t.keep
 ovOld:=fun b hb=>t.ovOld b (e b hb)
 asOld:=t.asOld
 ovIn:=fun b hb=>t.ovIn b (e b hb)
 ovAs:=fun b hb=>t.ovAs b (e b hb)
 apart:=t.apart
 len:=t.len
 cells:=fun i l c h1 h2=>(t.cells i l c h1 h2).mv (fun b o f g=>⟨⟨fun hb=>f.1 (e b hb),f.2⟩,g⟩) (cB.refl _) (fun J g=>g) (fun J g=>g)
theorem tL {ov':List Addr}{h:Heap}(e:∀ b,b∈ov'→b∈ov):Mv h h (Fz ov as) (Fz ov' as):=fun b o f g=>⟨⟨fun hb=>f.1 (e b hb),f.2⟩,g⟩
theorem EnvR.same {ov':List Addr}{h:Heap}(r:EnvR cx nm env ρ ov as h)(e:∀ b,b∈ov'↔b∈ov):EnvR cx nm env ρ ov' as h:=
 {r with
  loOv:=(e _).mpr r.loOv
  cOv:=fun n c h=>(e _).mpr (r.cOv n c h)
  vals:=fun y v k sv hl hk hq=>by
   obtain⟨u,hu,hr⟩:=r.vals y v k sv hl hk hq
   exact⟨u,hu,hr.mv (tL fun b=>(e b).mp) (cB.refl _)⟩}
structure CH (cx:Cx) (d:Nat)(nm:List (Str×NameKind))(ρ:aN)(σ:ak)(A:Around)(env:Env)(h₀:Heap)(ov:List Addr)(as:List (Addr×Addr))(la:Addr)(ds:List D)(s:Shared):Prop where
 here:Here cx d nm ρ σ A env h₀ ov as s
 acc:∃ vs,s.heap.PlainList la (List.toArray vs)∧DReps s.heap (Fz ov as) ds vs
theorem tF {h h':Heap}{F F':AP}{ds:List D}(k:∀ o,h.get? la=some o→h'.get? la=some o)(m:Mv h h' F F')(x:∃ vs,h.PlainList la (List.toArray vs)∧DReps h F ds vs):∃ vs,h'.PlainList la (List.toArray vs)∧DReps h' F' ds vs:=
 let ⟨vs,⟨n,e⟩,r⟩:=x;⟨vs,⟨n,k _ e⟩,r.mv m⟩
theorem eq_322 {ds:List D}{x:D}{v:Value}(C:CH cx d nm ρ σ A env h₀ ov as la ds s)(ho:la∈ov)(hl:env.locals≠la)(hc:∀ n c,env.cells.lookup n=some c→c≠la)(hz:ds.length≤100000)(r:cc s.heap (Fz ov as) x v){Q:VS} {E}
  (q:∀ u s',Fs [la] as as s s'→CH cx d nm ρ σ A env h₀ ov as la (ds++[x]) s'→Q u s'):wpAny (model cx.prog cx.w) A (call (.builtin "list.append") [.ref la,v]) Q E s:=by
 obtain⟨us,hp,rr⟩:=C.acc
 refine wpAny_list_append_plain hp (fun h' il hs=>?_) (by rw[size_toArray,rr.len,sizeLine_eq];exact u1 hz rfl)
 have e1:us.toArray.push v=(us++[v]).toArray:=by simp
 rw[e1] at il
 have kp:∀ b o,b∉ov→s.heap.get? b=some o→h'.get? b=some o:=fun b o hb e=>rl hs (fun q=>hb (q▸ho)) e
 have st':St cx h₀ ov as σ h':=C.here.st.over kp fun b hb=>by
  obtain⟨o,e⟩:=C.here.st.ovIn b hb
  by_cases q:b=la
  ·refine q▸?_;obtain⟨n,e⟩:=il;exact⟨_,e⟩
  ·exact⟨o,rl hs q e⟩
 have f:Fs [la] as as s {s with heap:=h'}:=⟨⟨[],by simp,fun J h=>nomatch h⟩,fun b o hb J e=>rl hs (fun q=>hb (by refine q▸?_;exact mem_cons_self)) e,fun b o e=>by
  by_cases q:b=la
  ·refine q▸?_;obtain⟨n,e⟩:=il;exact⟨_,e⟩
  ·exact⟨o,rl hs q e⟩,h',s.toks,rfl⟩
 have ER:=C.here.env.fs C.here.st f (fun b hb=>by refine(mem_singleton.mp hb)▸?_;exact ho) (fun q=>hl (mem_singleton.mp q)) fun n c h q=>hc n c h (mem_singleton.mp q)
 refine q _ _ f ⟨⟨C.here.a,C.here.gd,st',ER⟩,_,il,DReps.app (show DReps h' (Fz ov as) [x] [v] from⟨v,[],rfl,r.mv (eq_52 kp),rfl⟩) (rr.mv (eq_52 kp))⟩
theorem eq_172 {e te:Expr}{k:Nat}{p:Pos}{itv acc:Value}{tail:Sem Fin}{R:Result→Shared→Prop}(hq:(Code.compLoop e k itv acc cenv).quiet=true)
  (hden:∀ (s:Shared)(Q:Fin→Shared→Prop)(E:VS),wpAny (model cx.prog cx.w) A ((compTurn e k itv acc cenv).onRaise (fun x=>do noteFrame x cenv;theTreesLotGoes x)) Q E s→
   wpAny (model cx.prog cx.w) (A.under (.compLoop e k itv acc cenv)) ((model cx.prog cx.w).den (.compLoop e k itv acc cenv)) Q E s)
  (hct:compTurn e k itv acc cenv=(standAt p >>= fun J=>pyNext itv >>= fun r=>match r with
   | none=>pure (.done .next)
   | some v=>letOwnedTupleGo te itv v >>= fun J=>assign te cenv v >>= fun J=>tail))
  {ownA:List Addr}{tg:Tg}{pv:PV}{xs:List PV}{Inv:n9}(W:Walk cx te itv nw pv xs Inv){F:PV→ak→(List D→ak→Prop)→Prop}{c N:Nat}{K:List D→ak→Prop}{ds:List D}{sB:Shared}{asB:List (Addr×Addr)}
  (hla:la∈ov)(hlo:la∉ownA)(hov:∀ b∈ownA,b∈ov)(hap:∀ b∈ov,b∉nw)(hL:cenv.locals∈ownA)(hCo:∀ n c,(n,c)∈cenv.cells→c∈ov)
  (hC:∀ n c,n∈gX te→nm.lookup n=some .cell→cenv.cells.lookup n=some c→c∈ownA)
  (htg:dG nm tg te)(hno:∀ y∈br tg,ρb.lookup y=none)(hbind:∀ x σ K',F x σ K'→∃ ρ',bo tg x ρb=some ρ')
  (turn:∀ x ρ' σ (K':List D→ak→Prop) as s ds (Q:Fin→Shared→Prop) E,F x σ K'→bo tg x ρb=some ρ'→CH cx d nm ρ' σ A cenv h₀ (nw++ov) as la ds s→ds.length+c≤N→
   (∀ es σ' as' s',K' es σ'→Fs (la::ownA) as as' s s'→CH cx d nm ρ' σ' A cenv h₀ (nw++ov) as' la (ds++es) s'→es.length≤c→Q (.again (.compLoop e k itv acc cenv)) s')→wpAny (model cx.prog cx.w) A tail Q E s)
  (hn:∀ b∈nw,sB.heap.get? b=none)(hx:dh pv xs F xs σ K)(h0:CH cx d nm ρb σ A cenv h₀ (nw++ov) as la ds s)(inv0:Inv 0 (nw++ov) as s.heap)(fB:Fs (la::ownA) asB as sB s)(hN:ds.length+c*xs.length≤N)
  (fin:∀ es σ' as' s',K es σ'→Fs (la::ownA) asB as' sB s'→CH cx d nm ρb σ' A cenv h₀ ov as' la (ds++es) s'→es.length≤c*xs.length→R (.ok .next) s') :
  codeAny (model cx.prog cx.w) A (.compLoop e k itv acc cenv) R s:=by
 obtain⟨I0,hI0⟩:∃ I0:Nat→Shared→Prop,I0=fun n s'=>∃ i σ' as' ds1,n=xs.length - i∧i≤xs.length∧dh pv xs F (xs.drop i) σ' (fun es σ=>K (ds1++es) σ)∧Fs (la::ownA) asB as' sB s'∧
   CH cx d nm ρb σ' A cenv h₀ (nw++ov) as' la (ds++ds1) s'∧Inv i (nw++ov) as' s'.heap∧ds1.length≤c*i:=⟨_,rfl⟩
 refine eq_634 hq hden hct I0 (fun n s2 I E'=>?_) xs.length (by rw[hI0];exact⟨0,σ,as,[],rfl,Nat.zero_le _,hx,fB,by rw[append_nil];exact h0,inv0,Nat.zero_le _⟩)
 rw[hI0] at I
 obtain⟨i,σ2,as2,ds1,rfl,hi,hfor,f2,C2,inv,hlen⟩:=I
 have H2:=C2.here
 have hlnw:la∉nw:=hap _ hla
 have hchk:(∀ j,pv=.ref j→bw σ2 (.ref j)=some xs):=by
  cases hd:xs.drop i with
  | nil=>rw[hd] at hfor;exact(sZ hfor).1
  | cons x r=>rw[hd] at hfor;exact(sZ hfor).1
 have lo:cenv.locals∈ov:=hov _ hL
 refine wpAny_mono (W.step (E':=E') H2.a.hand inv H2.st hchk
  (Qn:=fun s₁=>R (.ok .next) s₁)
  (Qs:=fun v s₁=>wpAny (model cx.prog cx.w) A (assign te cenv v) (fun J s₂=>wpAny (model cx.prog cx.w) A tail (fun fin s₃=>fin=.again (.compLoop e k itv acc cenv)∧∃ m,m<xs.length - i∧I0 m s₃) E' s₂) E' s₁)
  (fun hx0 h' tk kp=>?_) (fun x v h' tk hx0 kp al rx inv'=>?_)) (fun r s₁ h=>?_) (fun J J h=>h)
 ·have hd:xs.drop i=[]:=by
   have:=List.getElem?_eq_none_iff.mp hx0
   exact List.drop_eq_nil_iff.mpr this
  have hie:i=xs.length:=by
   have:=List.getElem?_eq_none_iff.mp hx0
   exact Nat.le_antisymm hi this
  rw[hd] at hfor
  have hfor:=(sZ hfor).2
  have hfor:K ds1 σ2:=by simpa using hfor
  have ER:=(H2.env.nwch lo hCo hap kp).unhide lo hCo
  have mv:Mv s2.heap h' (Fz (nw++ov) as2) (Fz ov as2):=(sU kp).trans (tD _)
  refine fin ds1 σ2 as2 {s2 with heap:=h',toks:=tk} hfor (f2.over hn kp tk) ⟨⟨H2.a,H2.gd,H2.st.drop hap kp,ER⟩,tF (fun o e=>kp _ o hlnw e) mv C2.acc⟩ (hie▸hlen)
 ·have hd:xs.drop i=x::xs.drop (i+1):=by
   obtain⟨hlt,e⟩:=List.getElem?_eq_some_iff.mp hx0
   refine(e).symm▸?_
   exact List.drop_eq_getElem_cons hlt
  have hlt:i<xs.length:=(List.getElem?_eq_some_iff.mp hx0).1
  rw[hd] at hfor
  have hfor:=(sZ hfor).2
  obtain⟨ρ3,hb⟩:=hbind _ _ _ hfor
  have kpo:∀ b o,b∉nw++ov→s2.heap.get? b=some o→h'.get? b=some o:=fun b o hb e=>kp b o (fun q=>hb (mem_append_left _ q)) e
  have st3:St cx h₀ (nw++ov) as2 σ2 h':=H2.st.over kpo fun b hb=>by
   rcases mem_append.mp hb with q | q
   ·exact al b q
   ·obtain⟨o,e⟩:=H2.st.ovIn b hb
    exact⟨o,kp b o (hap b q) e⟩
  have H3:Here cx d nm ρb σ2 A cenv h₀ (nw++ov) as2 {s2 with heap:=h',toks:=tk}:=⟨H2.a,H2.gd,st3,H2.env.nwch lo hCo hap kp⟩
  have acc3:=tF (fun o e=>kp _ o hlnw e) (sU kp) C2.acc
  have f3:=f2.over hn kp tk
  have hovn:∀ b∈ownA,b∈nw++ov:=fun b hb=>mem_append_right _ (hov b hb)
  have own_nw:∀ b∈nw,b∉la::ownA:=fun b hb hq=>by
   rcases mem_cons.mp hq with rfl | hq
   ·exact hlnw hb
   ·exact hap _ (hov b hq) hb
  refine eq_315 hL hovn H3 hC htg hb rx fun s4 f4 H4=>?_
  have acc4:=tF (fun o e=>f4.kept _ o hlo (H3.st.ovAs la (mem_append_right _ hla)) e) (f4.mv' hovn) acc3
  have hsum:(ds++ds1).length+c≤N:=by
   refine length_append▸?_
   have:c*(i+1)≤c*xs.length:=Nat.mul_le_mul_left _ hlt
   rw[Nat.mul_add] at this
   exact re (Nat.add_le_add this (Nat.add_le_add hlen hN)) (by simp +arith only)
  refine turn x ρ3 σ2 _ as2 s4 (ds++ds1) _ _ hfor hb ⟨H4,acc4⟩ hsum fun es σ5 as5 s5 k5 f5 C5 hl5=>⟨rfl,?_⟩
  have f4':Fs (la::ownA) as2 as2 _ s4:=f4.mono fun b hb=>mem_cons_of_mem _ hb
  have f35:=f4'.trans f5
  have hov':∀ b∈la::ownA,b∈nw++ov:=fun b hb=>by
   rcases mem_cons.mp hb with rfl | hb
   ·exact mem_append_right _ hla
   ·exact hovn b hb
  have inv5:Inv (i+1) (nw++ov) as5 s5.heap:=W.frame inv' (f35.mv' hov') f35.prefix fun b hb o e=>f35.kept b o (own_nw b hb) (H3.st.ovAs b (mem_append_left _ hb)) e
  have hb':=(eq_23 hb).1
  refine hI0▸?_
  refine⟨xs.length - (i+1),Nat.sub_succ_lt_self _ _ hlt,i+1,σ5,as5,ds1++es,rfl,hlt,?_,f3.trans f35,⟨⟨C5.here.a,C5.here.gd,C5.here.st,C5.here.env.less fun y v hy=>?_⟩,by rw[← append_assoc];exact C5.acc⟩,inv5,?_⟩
  ·simpa only[append_assoc] using k5
  ·by_cases q:y∈br tg
   ·rw[hno y q] at hy;cases hy
   ·rw[hb' y q];exact hy
  ·rw[length_append,Nat.mul_add];exact re (Nat.add_le_add hl5 hlen) (by simp +arith only)
 ·cases r with
  | none=>exact h
  | some v=>exact h
end
end Mine
end
section
namespace Mine
open PySem PySem.W PySem.Calls PyProof.Rows PySem.Spec
theorem eq_323 {nm names:List (Str×NameKind)}{n:Str}{k:NameKind}(hn:(names.map (·.1)).Nodup)(h:names.lookup n=some k)(hk:k≠.free):(aV nm names).lookup n=some k:=by
 have h1:=eq_321 (nm:=nm) (rG h)
 rw[eq_638 hk] at h1
 exact sT (by rw[eq_320];exact hn) h1
theorem eq_324 {nm names:List (Str×NameKind)}(hn:(names.map (·.1)).Nodup){x:Nat}{e:Expr}(h:dj names x e):dj (aV nm names) x e:=by
 cases e with
 | Name n p=>
  obtain⟨a,b,c⟩:=h
  refine⟨a,b,?_⟩
  rcases c with c | c
  ·exact .inl (eq_323 hn c (by decide))
  ·exact .inr (eq_323 hn c (by decide))
 | _=>exact h.elim
theorem eq_325 {nm names:List (Str×NameKind)}(hn:(names.map (·.1)).Nodup):∀ {xs:List Nat}{es:List Expr},cO names xs es→cO (aV nm names) xs es
 | [],_,h=>h
 | x::xs,_,⟨e,r,e1,a,b⟩=>⟨e,r,e1,eq_324 hn a,eq_325 hn b⟩
theorem eq_173 {nm names:List (Str×NameKind)}(hn:(names.map (·.1)).Nodup){tg:Tg}{e:Expr}(h:dG names tg e):dG (aV nm names) tg e:=by
 cases tg with
 | one x=>exact eq_324 hn h
 | many xs=>
  obtain⟨es,k,p,e,h⟩:=h
  exact⟨es,k,p,e,eq_325 hn h⟩
theorem eq_326 {names:List (Str×NameKind)}{n:Str}:∀ {xs:List Nat}{es:List Expr},cO names xs es→n∈ii es→names.lookup n=some .local∨names.lookup n=some .cell
 | [],_,h,hm=>by cases h;cases hm
 | x::xs,_,⟨e,r,e1,a,b⟩,hm=>by
  subst e1
  cases e with
  | Name m p=>
   rcases mem_cons.mp hm with rfl | hm
   ·exact a.2.2
   ·exact eq_326 b hm
  | _=>exact a.elim
theorem eq_643 {names:List (Str×NameKind)}{n:Str}{tg:Tg}{e:Expr}(h:dG names tg e)(hm:n∈gX e):names.lookup n=some .local∨names.lookup n=some .cell:=by
 cases tg with
 | one x=>
  cases e with
  | Name m p=>
   rcases mem_cons.mp hm with rfl | hm
   ·exact h.2.2
   ·cases hm
  | _=>exact(show False from h).elim
 | many xs=>
  obtain⟨es,k,p,rfl,h⟩:=h
  exact eq_326 h hm
theorem eq_174 {names:List (Str×NameKind)}(hn:(names.map (·.1)).Nodup){n:Str}{tg:Tg}{e:Expr}(h:dG names tg e)(hm:n∈gX e):(n,NameKind.free)∉names:=fun q=>by
 have:=sT hn q
 rcases eq_643 h hm with e | e<;>rw[e] at this<;>cases this
section
variable {cx:Cx}{Φ:b9}{d:Nat}{nm nm':List (Str×NameKind)}{ρ ρ' ρb:aN}{σ:ak}{A:Around}{env cenv:Env}{h₀:Heap}{ov nw own:List Addr}{as as' as'':List (Addr×Addr)}{s s' s'':Shared}{la:Addr}
theorem eq_327 {e ie te:Expr}{sc:Scope}{ts:List Nat}{x:T}{K1:KP}{RR:Value→Addr→Result→Shared→Prop}{E:VS}(ok:CompSc nm ts sc)(h1:jr cx Φ d nm te x ie)(hx:bR cx.P.tab Φ x ρ σ K1)(H:Here cx d nm ρ σ A env h₀ ov as s)
  (hk:∀ pv σ,K1 pv σ→∃ xs,bw σ pv=some xs)
  (t:∀ pv σ' itv as' s' nw xs Inv la L,K1 pv σ'→bw σ' pv=some xs→(∀ b∈nw,s.heap.get? b=none)→(∀ b∈(la::b8 sc env L)++ov,b∉nw)→(∀ b∈la::b8 sc env L,s.heap.get? b=none)→la∉b8 sc env L→
   CH cx d (aV nm sc.names) (dH ts ρ) σ' A (bD sc env L) h₀ (nw++((la::b8 sc env L)++ov)) as' la [] s'→Walk cx te itv nw pv xs Inv→Inv 0 (nw++((la::b8 sc env L)++ov)) as' s'.heap→Fw as as' s s'→
   (∀ n c,(n,c)∈(bD sc env L).cells→c∈(la::b8 sc env L)++ov)→(∀ n c,(bD sc env L).cells.lookup n=some c→(n,NameKind.free)∉sc.names→c∈b8 sc env L)→(∀ n c,(bD sc env L).cells.lookup n=some c→c≠la)→
   codeAny (model cx.prog cx.w) A (.compStart e 0 itv (.ref la) (bD sc env L)) (RR (.ref la) L) s') :
  closureFor sc env=pure (eH env.cells sc.names [])∧
  wpAny (model cx.prog cx.w) A (eval ie env) (fun x s₁=>wpAny (model cx.prog cx.w) A (pyIter x) (fun it s₂=>wpAny (model cx.prog cx.w) A (newList []) (fun acc s₃=>
   wpAny (model cx.prog cx.w) A (newFunctionEnv sc env.globals (eH env.cells sc.names []) [] env.qual none .none (some env)) (fun cenv s₄=>
    codeAny (model cx.prog cx.w) A (.compStart e 0 it acc {cenv with scope:=relabel sc env}) (RR acc cenv.locals) s₄) E s₃) E s₂) E s₁) E s:=by
 refine⟨eq_639 fun n hn=>H.env.kinds n (ok.free n hn),?_⟩
 refine h1 ρ σ K1 A env h₀ ov as s _ E hx H hk fun pv σ1 itv as1 s1 nw xs Inv k1 hxs hn f1 st1 W inv0=>?_
 have R1:EnvR cx nm env ρ (nw++ov) as1 s1.heap:=H.env.fw' H.st.ovAs f1 hn
 refine wpAny_newObj_type ?_ (Nat.zero_le _)
 generalize hH:s1.heap.push {cls:=.type "list",dict:=none,data:=.seq ([]:List Value).toArray}=H1
 have kp1:∀ b y,s1.heap.get? b=some y→H1.get? b=some y:=fun b y e=>hH▸Heap.get?_push_of_some _ e
 have hsz:H1.objs.size=s1.heap.objs.size+1:=by rw[← hH,Heap.size_push]
 have hla:H1.get? s1.heap.objs.size=some {cls:=.type "list",dict:=none,data:=.seq ([]:List Value).toArray}:=hH▸Heap.get?_push_size _ rfl
 have hn1:∀ b∈[s1.heap.objs.size],s1.heap.get? b=none:=fun b hb=>by rw[mem_singleton.mp hb];exact rp _
 have st2:St cx h₀ ([s1.heap.objs.size]++(nw++ov)) as1 σ1 H1:=st1.hide hn1 kp1 fun b hb=>by rw[mem_singleton.mp hb];exact⟨_,hla⟩
 have R2:EnvR cx nm env ρ ([s1.heap.objs.size]++(nw++ov)) as1 H1:=R1.hide hn1 kp1
 refine eq_633 fun H2 kp2 hC hm=>?_
 have cenv:=eq_642 (s:={s1 with heap:=H1}) ok R2 st2 kp2 hC hm
 obtain⟨c1,c2,c3,c4⟩:=cenv
 have c1:∀ b∈b8 sc env H1.objs.size,H1.get? b=none:=c1
 have st3:St cx h₀ (b8 sc env H1.objs.size++([s1.heap.objs.size]++(nw++ov))) as1 σ1 H2:=St.hide (s:={s1 with heap:=H1}) st2 c1 kp2 c2
 have hfr:∀ b∈s1.heap.objs.size::b8 sc env H1.objs.size,s1.heap.get? b=none:=fun b hb=>by
  rcases mem_cons.mp hb with rfl | hb
  ·exact rp _
  ·cases q:s1.heap.get? b with
   | none=>rfl
   | some o=>have:=kp1 b o q;rw[c1 b hb] at this;cases this
 have iff:∀ b,b∈nw++((s1.heap.objs.size::b8 sc env H1.objs.size)++ov)↔b∈b8 sc env H1.objs.size++([s1.heap.objs.size]++(nw++ov)):=fun b=>by
  simp only[mem_append,mem_cons,not_mem_nil,or_false]
  constructor
  ·rintro (h | (h | h) | h)
   ·exact .inr (.inr (.inl h))
   ·exact .inr (.inl h)
   ·exact .inl h
   ·exact .inr (.inr (.inr h))
  ·rintro (h | h | h | h)
   ·exact .inr (.inl (.inr h))
   ·exact .inr (.inl (.inl h))
   ·exact .inl h
   ·exact .inr (.inr h)
 have kp:∀ b y,s1.heap.get? b=some y→H2.get? b=some y:=fun b y e=>kp2 b y (kp1 b y e)
 have mvI:Mv s1.heap H2 (Fz (nw++ov) as1) (Fz (nw++((s1.heap.objs.size::b8 sc env H1.objs.size)++ov)) as1):=fun b o f e=>⟨⟨fun hb=>by
  rcases mem_append.mp hb with q | q
  ·exact f.1 (mem_append_left _ q)
  ·rcases mem_append.mp q with q | q
   ·exact rh e (hfr b q) rfl
   ·exact f.1 (mem_append_right _ q),f.2⟩,kp b o e⟩
 obtain⟨_,f2⟩:=st1.kp kp s1.toks
 have hla':s1.heap.objs.size∉b8 sc env H1.objs.size:=fun q=>by have:=c1 _ q;rw[hla] at this;cases this
 have hnw_live:∀ b∈nw,∃ o,s1.heap.get? b=some o:=fun b hb=>st1.ovIn b (mem_append_left _ hb)
 refine t pv σ1 itv as1 {s1 with heap:=H2} nw xs Inv s1.heap.objs.size H1.objs.size k1 hxs hn (fun b hb q=>?_) (fun b hb=>f1.old (hfr b hb)) hla'
  ⟨⟨H.a,H.gd,st3.sub fun b=>(iff b).mp,c3.same iff⟩,[],⟨_,kp2 _ _ hla⟩,rfl⟩ W (W.frame inv0 mvI (cB.refl _) fun b hb o e=>kp b o e) (f1.trans f2) (fun n c h=>?_) c4 (fun n c h e=>?_)
 ·obtain⟨o,e⟩:=hnw_live b q
  rcases mem_append.mp hb with h | h
  ·exact rh e (hfr b h) rfl
  ·obtain⟨o',e'⟩:=H.st.ovIn b h
   exact rh e' (hn b q) rfl
 ·have hh:(n,c)∈cellsFrom (H1.objs.size+1) sc.names (eH env.cells sc.names []):=h
  rcases hm n c h with q | ⟨q,_⟩
  ·rcases eq_55 q with q | ⟨q1,q2⟩
   ·cases q
   ·obtain⟨c',hc⟩:=H.env.kinds n (ok.free n q1)
    rw[hc] at q2
    have q2:c=c':=q2
    subst q2
    exact mem_append_right _ (H.env.cOv n c (rG hc))
  ·exact mem_append_left _ (mem_cons_of_mem _ (mem_cons_of_mem _ (List.mem_map.mpr ⟨(n,c),List.mem_filter.mpr ⟨hh,by simpa using q⟩,rfl⟩)))
 ·subst e
  rcases hm n _ (rG h) with q | ⟨q,_⟩
  ·rcases eq_55 q with q | ⟨q1,q2⟩
   ·cases q
   ·obtain⟨c',hc⟩:=H.env.kinds n (ok.free n q1)
    rw[hc] at q2
    have q2:s1.heap.objs.size=c':=q2
    obtain⟨v,o,e,_⟩:=R1.cIs n c' hc
    rw[← q2,rp] at e
    cases e
  ·rw[hsz] at q
   exact Nat.lt_asymm q (Nat.lt_succ_self _)
theorem Fs.fw (x:Fs own as as' s s')(hn:∀ b∈own,s.heap.get? b=none):Fw as as' s s':=⟨x.pre,fun b o c e=>x.kept b o (fun q=>rh e (hn b q) rfl) c e,x.live,x.rest⟩
theorem eq_328 {m:Bool}{es:List D}{K:KP}{L:Addr}{ownA:List Addr}(hk:oM m es σ K)(hL:L∈ownA)(hlo:la∉ownA)(hfr:∀ b∈la::ownA,s.heap.get? b=none)(hov:∀ b∈ov,∃ o,s.heap.get? b=some o)
  (f:Fs (la::ownA) as as' s s')(C:CH cx d nm' ρb σ A cenv h₀ ((la::ownA)++ov) as' la es s') :
  ∃ pv σ2 as2,K pv σ2∧Fw as as2 s s'∧St cx h₀ ([L]++ov) as2 σ2 s'.heap∧az cx s'.heap (Fz ([L]++ov) as2) as2 pv (.ref la):=by
 have fw:=f.fw hfr
 have st:=C.here.st
 obtain⟨vs,hp,r⟩:=C.acc
 have hne:la≠L:=fun q=>hlo (q▸hL)
 have lov:∀ b∈la::ownA,b∉ov:=fun b hb q=>by obtain⟨o,e⟩:=hov b q;exact rh e (hfr b hb) rfl
 have sub1:∀ b,b∈[L]++ov→b∈(la::ownA)++ov:=fun b hb=>by
  rcases mem_append.mp hb with q | q
  ·rw[mem_singleton.mp q];exact mem_append_left _ (mem_cons_of_mem _ hL)
  ·exact mem_append_right _ q
 cases m with
 | false=>
  refine⟨.p (.lst es),σ,as',hk,fw,st.sub sub1,la,vs,rfl,⟨fun hb=>?_,st.ovAs la (mem_append_left _ mem_cons_self)⟩,hp,r.mv (tL sub1)⟩
  rcases mem_append.mp hb with q | q
  ·exact hne (mem_singleton.mp q)
  ·exact lov la mem_cons_self q
 | true=>
  have sub2:∀ b,b∈[la]++([L]++ov)→b∈(la::ownA)++ov:=fun b hb=>by
   rcases mem_append.mp hb with q | q
   ·rw[mem_singleton.mp q];exact mem_append_left _ mem_cons_self
   ·exact sub1 b q
  have st2:=st.sub sub2
  have mvp:=tJ (nw:=[la]) (ov:=[L]++ov) (as:=as') s'.heap (l:=(la,la)) mem_cons_self mem_cons_self
  have nla:∀ b∈[L]++ov,b≠la:=fun b hb=>by
   rcases mem_append.mp hb with q | q
   ·rw[mem_singleton.mp q];exact Ne.symm hne
   ·exact fun e=>lov la mem_cons_self (e▸q)
  obtain⟨st5,f5⟩:=st2.promote (l:=(la,la)) (c:=.list (es.map .p)) mem_cons_self mem_cons_self ⟨rfl,vs,hp,sa (r.mv (Mv.trans (tL sub2) mvp))⟩ fw (hfr la mem_cons_self) (hfr la mem_cons_self) (fun b hb=>⟨nla b hb,nla b hb⟩)
  exact⟨_,_,_,hk,f5,st5,(la,la),by rw[← st2.len];simp,rfl⟩
end
section
variable {cx:Cx}{Φ:b9}{d:Nat}{nm nm':List (Str×NameKind)}{ρ ρ' ρb:aN}{σ:ak}{A:Around}{env cenv:Env}{h₀:Heap}{ov nw own:List Addr}{as as' as'':List (Addr×Addr)}{s s' s'':Shared}{la:Addr}
def lU (cx:Cx)(Φ:b9) (d:Nat)(nm:List (Str×NameKind))(x:T)(ifs:List Expr):Prop:=
 (ifs=[]∧x=.con (.bool true))∨∃ c,ifs=[c]∧pO cx Φ d nm x c
theorem eq_644 {x:T}{ifs:List Expr}(h:lU cx Φ d nm x ifs){K:Bool→ak→Prop}(hx:bR cx.P.tab Φ x ρ σ (bK K))(H:Here cx d nm ρ σ A env h₀ ov as s){Q:Bool→Shared→Prop} {E}
  (t:∀ b σ' as' s',K b σ'→Fw as as' s s'→St cx h₀ ov as' σ' s'.heap→Q b s') :
  wpAny (model cx.prog cx.w) A (forIn ifs true fun c r=>if r=true then do let ok ← isTrue c env (eval c env);pure (ForInStep.yield ok) else pure (ForInStep.yield r)) Q E s:=by
 rcases h with ⟨rfl,rfl⟩ | ⟨c,rfl,h⟩
 ·exact wpAny_tests_nil (t true σ as s hx (Fw.refl _ _) H.st)
 ·exact wpAny_tests_one (h ρ σ K A env h₀ ov as s Q E hx H t)
theorem CH.fw {ds:List D}(C:CH cx d nm ρ σ A env h₀ ov as la ds s){σ':ak}(f:Fw as as' s s')(t:St cx h₀ ov as' σ' s'.heap)(ho:la∈ov):CH cx d nm ρ σ' A env h₀ ov as' la ds s':=
 ⟨C.here.next f t,tF (fun o e=>f.kept la o (C.here.st.ovAs la ho) e) f.mv C.acc⟩
theorem CH.congr {ds:List D}(C:CH cx d nm ρ σ A env h₀ ov as la ds s)(h:∀ x,ρ'.lookup x=ρ.lookup x):CH cx d nm ρ' σ A env h₀ ov as la ds s:=
 ⟨{C.here with env:=C.here.env.congr h},C.acc⟩
theorem eq_329 {m:Bool}{elt it cnd:T}{tg:Tg}{ee te ie:Expr}{ifs:List Expr}{sc:Scope}{pos:Pos}{K:KP}{RR:Value→Addr→Result→Shared→Prop}{E:VS}(ok:CompSc nm (br tg) sc)(htg:dG sc.names tg te)
  (h1:jr cx Φ d nm te it ie)(h2:SE cx Φ d (aV nm sc.names) elt ee)(h3:lU cx Φ d (aV nm sc.names) cnd ifs)(hx:bR cx.P.tab Φ (.cmp1 m elt tg it cnd) ρ σ K)(H:Here cx d nm ρ σ A env h₀ ov as s)
  (t:∀ pv σ2 as2 s' la L,K pv σ2→Fw as as2 s s'→St cx h₀ ([L]++ov) as2 σ2 s'.heap→az cx s'.heap (Fz ([L]++ov) as2) as2 pv (.ref la)→s.heap.get? L=none→(∃ m,s'.heap.Ns L m)→RR (.ref la) L (.ok .next) s') :
  closureFor sc env=pure (eH env.cells sc.names [])∧
  wpAny (model cx.prog cx.w) A (eval ie env) (fun x s₁=>wpAny (model cx.prog cx.w) A (pyIter x) (fun it s₂=>wpAny (model cx.prog cx.w) A (newList []) (fun acc s₃=>
   wpAny (model cx.prog cx.w) A (newFunctionEnv sc env.globals (eH env.cells sc.names []) [] env.qual none .none (some env)) (fun cenv s₄=>
    codeAny (model cx.prog cx.w) A (.compStart (.ListComp ee [⟨te,ie,ifs,0⟩] sc pos) 0 it acc {cenv with scope:=relabel sc env}) (RR acc cenv.locals) s₄) E s₃) E s₂) E s₁) E s:=by
 refine eq_327 ok h1 hx H (fun pv σ k=>?_) fun pv σ1 itv as1 s1 nw xs Inv la L k1 hxs hn hap hfr hla C W inv f hCo hCf hcl=>?_
 ·obtain⟨_,e,_⟩:=rf k
  exact⟨_,e⟩
 rw[hxs] at k1
 obtain⟨hz,k1⟩:=rt k1
 have hz:=Nat.le_of_ble_eq_true hz
 have hla':la∈(la::b8 sc env L)++ov:=mem_append_left _ mem_cons_self
 have hLo:L∈b8 sc env L:=mem_cons_self
 have nl:(bD sc env L).locals≠la:=fun e=>hla ((show (bD sc env L).locals=L from rfl)▸e▸hLo)
 have look:∀ {x:PV}{ρ1:aN}{ρ3:aN},bo tg x ρ=some ρ1→bo tg x (dH (br tg) ρ)=some ρ3→∀ y,ρ1.lookup y=ρ3.lookup y:=fun e1 e3 y=>by
  obtain⟨ρ0,e0,h0⟩:=(eq_23 e1).2 (dH (br tg) _)
  rw[e0] at e3
  cases e3
  exact h0 y fun hy=>by rw[eq_22,if_neg hy]
 refine eq_166 (g:=⟨te,ie,ifs,0⟩) rfl rfl (fun J J J h=>h) rfl (fun Q E q=>W.self inv q) ?_
 refine eq_172 (ownA:=b8 sc env L) (tg:=tg) (N:=100000) (c:=1) rfl (fun J J J h=>h) (eq_635 ee te ie ifs sc pos itv (.ref la) (bD sc env L)) W hla' hla (fun b hb=>mem_append_left _ (mem_cons_of_mem _ hb)) hap hLo
  hCo (fun n c h J hc=>hCf n c hc (eq_174 ok.nd htg h)) (eq_173 ok.nd htg) (fun y hy=>by rw[eq_22,if_pos hy]) (fun x σ K' hF=>?_) (fun x ρ3 σ2 K' as2 s2 ds Q E hF hb C2 hN tt=>?_) hn k1 C inv f.fs (by simp;exact hz) (fun es σ' as' s' k f' C' hl=>?_)
 ·obtain⟨ρ1,e1,hF⟩:=rf hF
  obtain⟨ρ0,e0,_⟩:=(eq_23 e1).2 (dH (br tg) ρ)
  exact⟨ρ0,e0⟩
 ·obtain⟨ρ1,e1,hF⟩:=rf hF
  have lk:=look e1 hb
  have C2':=C2.congr lk
  have hlan:la∈nw++((la::b8 sc env L)++ov):=mem_append_right _ hla'
  refine wpAny_bind (eq_644 h3 hF C2'.here fun b σ3 as3 s3 k3 f3 st3=>?_)
  have C3:=C2'.fw f3 st3 hlan
  cases b with
  | false=>
   refine wpAny_pure (tt [] σ3 as3 s3 k3 f3.fs ?_ (Nat.zero_le _))
   rw[append_nil]
   exact C3.congr fun y=>(lk y).symm
  | true=>
   refine wpAny_bind (wpAny_bind (h2 ρ1 σ3 _ A _ h₀ _ as3 s3 _ _ k3 C3.here fun pv σ4 v as4 s4 k4 f4 st4 r4=>?_))
   obtain⟨x,rfl,k4⟩:=eq_261 k4
   have C4:=C3.fw f4 st4 hlan
   refine wpAny_bind (eq_322 C4 hlan nl hcl (by exact Nat.le_of_succ_le hN) r4 fun u s5 f5 C5=>?_)
   refine wpAny_pure (wpAny_pure (tt [x] σ4 as4 s5 k4 ?_ (C5.congr fun y=>(lk y).symm) (Nat.le_refl _)))
   exact((f3.trans f4).fs).trans (f5.mono fun b hb=>by rw[mem_singleton.mp hb];exact mem_cons_self)
 ·obtain⟨pv2,σ2,as2,k2,fw,st,r⟩:=eq_328 k hLo hla hfr H.st.ovIn f' C'
  exact t pv2 σ2 as2 s' la L k2 fw st r (hfr L (mem_cons_of_mem _ hLo)) C'.here.env.lo
theorem eq_330 {ee ie te:Expr}{ifs:List Expr}{rest:List Comprehension}{sc:Scope}{pos:Pos}{x:T}(hk:sc.kind=.function)(hnd:(sc.names.map (·.1)).Nodup)(hf:∀ env (x:Value),foldedSetIterable ie env x=pure x)
  (core:∀ ρ σ K A env h₀ ov as s (RR:Value→Addr→Result→Shared→Prop) E,bR cx.P.tab Φ x ρ σ K→Here cx d nm ρ σ A env h₀ ov as s→
   (∀ pv σ2 as2 s' la L,K pv σ2→Fw as as2 s s'→St cx h₀ ([L]++ov) as2 σ2 s'.heap→az cx s'.heap (Fz ([L]++ov) as2) as2 pv (.ref la)→s.heap.get? L=none→(∃ m,s'.heap.Ns L m)→RR (.ref la) L (.ok .next) s')→
   closureFor sc env=pure (eH env.cells sc.names [])∧
   wpAny (model cx.prog cx.w) A (eval ie env) (fun x s₁=>wpAny (model cx.prog cx.w) A (pyIter x) (fun it s₂=>wpAny (model cx.prog cx.w) A (newList []) (fun acc s₃=>
    wpAny (model cx.prog cx.w) A (newFunctionEnv sc env.globals (eH env.cells sc.names []) [] env.qual none .none (some env)) (fun cenv s₄=>
     codeAny (model cx.prog cx.w) A (.compStart (.ListComp ee (⟨te,ie,ifs,0⟩::rest) sc pos) 0 it acc {cenv with scope:=relabel sc env}) (RR acc cenv.locals) s₄) E s₃) E s₂) E s₁) E s) :
  SE cx Φ d nm x (.ListComp ee (⟨te,ie,ifs,0⟩::rest) sc pos):=fun ρ σ K A env h₀ ov as s Q E hx H t=>by
 rw[eval_ListComp]
 obtain⟨hcl,h⟩:=core ρ σ K A env h₀ ov as s (fun acc C=>compPost (model cx.prog cx.w) A E none Q acc C) E hx H fun pv σ2 as2 s' la L k f st r hL hns=>by
  obtain⟨m,hm⟩:=hns
  refine⟨m,hm,fun h' hs=>?_⟩
  have hn:∀ b∈[L],s.heap.get? b=none:=fun b hb=>by rw[mem_singleton.mp hb];exact hL
  have kp:∀ b o,b∉[L]→s'.heap.get? b=some o→h'.get? b=some o:=fun b o hb e=>rl hs (fun q=>hb (by rw[q];exact mem_cons_self)) e
  have ap:∀ b∈ov,b∉[L]:=fun b hb q=>by obtain⟨o,e⟩:=H.st.ovIn b hb;exact rh e (hn b q) rfl
  exact t pv σ2 _ as2 {s' with heap:=h'} k (f.over hn kp s'.toks) (st.drop ap kp) (r.mv ((sU kp).trans (tD _)) (cB.refl _))
 exact wpAny_comprehension_free (use:=none) rfl (hf env) hcl hk (fun x hx hl=>by obtain⟨n,k⟩:=x;cases hl;exact sT hnd hx) h
theorem eq_645 {m:Bool}{elt it cnd:T}{tg:Tg}{ee te ie:Expr}{ifs:List Expr}{sc:Scope}{pos:Pos}(ok:cP nm (br tg) sc=true)(htg:dG sc.names tg te)(hf:∀ env (x:Value),foldedSetIterable ie env x=pure x)
  (h1:jr cx Φ d nm te it ie)(h2:SE cx Φ d (aV nm sc.names) elt ee)(h3:lU cx Φ d (aV nm sc.names) cnd ifs):SE cx Φ d nm (.cmp1 m elt tg it cnd) (.ListComp ee [⟨te,ie,ifs,0⟩] sc pos):=
 have ok:=eq_96 ok
 eq_330 ok.kind ok.nd hf fun ρ σ K A env h₀ ov as s RR E hx H t=>eq_329 ok htg h1 h2 h3 hx H t
theorem eq_331 {ee ie te:Expr}{ifs:List Expr}{rest:List Comprehension}{sc:Scope}{pos spos p:Pos}{x:T}{y:Nat}{n:Str}(hk:sc.kind=.function)(hnd:(sc.names.map (·.1)).Nodup)(hf:∀ env (x:Value),foldedSetIterable ie env x=pure x)
  (sx:bc y=true)(hy:aJ y=n)(hnk:nm.lookup n=some .local∨nm.lookup n=some .cell)(hsw:∀ env:Env,env.scope.names=nm→env.scope.kind=.function→swapsWith (.ListComp ee (⟨te,ie,ifs,0⟩::rest) sc pos) (some (.Name n p)) spos.line env=pure true)
  (core:∀ ρ σ K A env h₀ ov as s (RR:Value→Addr→Result→Shared→Prop) E,bR cx.P.tab Φ x ρ σ K→Here cx d nm ρ σ A env h₀ ov as s→
   (∀ pv σ2 as2 s' la L,K pv σ2→Fw as as2 s s'→St cx h₀ ([L]++ov) as2 σ2 s'.heap→az cx s'.heap (Fz ([L]++ov) as2) as2 pv (.ref la)→s.heap.get? L=none→(∃ m,s'.heap.Ns L m)→RR (.ref la) L (.ok .next) s')→
   closureFor sc env=pure (eH env.cells sc.names [])∧
   wpAny (model cx.prog cx.w) A (eval ie env) (fun x s₁=>wpAny (model cx.prog cx.w) A (pyIter x) (fun it s₂=>wpAny (model cx.prog cx.w) A (newList []) (fun acc s₃=>
    wpAny (model cx.prog cx.w) A (newFunctionEnv sc env.globals (eH env.cells sc.names []) [] env.qual none .none (some env)) (fun cenv s₄=>
     codeAny (model cx.prog cx.w) A (.compStart (.ListComp ee (⟨te,ie,ifs,0⟩::rest) sc pos) 0 it acc {cenv with scope:=relabel sc env}) (RR acc cenv.locals) s₄) E s₃) E s₂) E s₁) E s) :
  S1 cx Φ d nm (.asg y x) (.Assign [.Name n p] (.ListComp ee (⟨te,ie,ifs,0⟩::rest) sc pos) spos):=fun ρ σ K A env h₀ ov as s Q E hx H t=>by
 rw[exec_Assign_Name_used _ _ _ _ (hsw env H.env.names H.env.kind)]
 refine wpAny_bind (wpAny_standAt (wpAny_bind ?_))
 show wpAny _ A (do let _ ← comprehension (.ListComp ee (⟨te,ie,ifs,0⟩::rest) sc pos) sc env _ (newList []) false (eval ie env) (some (assign (.Name n p) env))) _ _ s
 obtain⟨hcl,h⟩:=core ρ σ _ A env h₀ ov as s (fun acc C=>compPost (model cx.prog cx.w) A E (some (assign (.Name n p) env)) (fun J s'=>Q .next s') acc C) E hx H fun pv σ2 as2 s' la L k f st r hL hns=>by
  have hn:∀ b∈[L],s.heap.get? b=none:=fun b hb=>by rw[mem_singleton.mp hb];exact hL
  have ap:∀ b∈ov,b∉[L]:=fun b hb q=>by obtain⟨o,e⟩:=H.st.ovIn b hb;exact rh e (hn b q) rfl
  have lo:=H.env.loOv
  have co:=H.env.cOv
  have H1:Here cx d nm ρ σ2 A env h₀ ([L]++ov) as2 s':=⟨H.a,H.gd,st,H.env.fw' H.st.ovAs f hn⟩
  show wpAny _ A (assign (.Name n p) env (.ref la)) _ _ _
  refine wpAny_assign_Name (eq_94 H1 sx hy hnk r fun s2 f2 H2=>?_)
  obtain⟨m,o,es,ep,e,q⟩:=hns
  have hLo:L∉c8 env:=fun hb=>ap L (tK H.env L hb) mem_cons_self
  refine⟨m,⟨o,es,ep,f2.kept L o hLo (H1.st.ovAs L (mem_append_left _ mem_cons_self)) e,q⟩,fun h' hs=>?_⟩
  have kp:∀ b o,b∉[L]→s2.heap.get? b=some o→h'.get? b=some o:=fun b o hb e=>rl hs (fun q=>hb (by rw[q];exact mem_cons_self)) e
  exact t .next _ σ2 .next as2 {s2 with heap:=h'} k ((f.fs.trans f2).over hn kp s2.toks) ⟨H2.a,H2.gd,H2.st.drop ap kp,(H2.env.nwch lo co ap kp).unhide lo co⟩ rfl
 refine wpAny_bind (wpAny_mono (wpAny_comprehension_free (use:=some (assign (.Name n p) env)) (Q:=fun J s'=>Q .next s') rfl (hf env) hcl hk (fun x hx hl=>by obtain⟨n,k⟩:=x;cases hl;exact sT hnd hx) h)
  (fun J s' hq=>wpAny_pure (wpAny_pure hq)) fun J J e=>e)
theorem eq_646 {m:Bool}{elt it cnd:T}{tg:Tg}{ee te ie:Expr}{ifs:List Expr}{sc:Scope}{pos spos p:Pos}{y:Nat}{n:Str}(ok:cP nm (br tg) sc=true)(htg:dG sc.names tg te)(hf:∀ env (x:Value),foldedSetIterable ie env x=pure x)
  (sx:bc y=true)(hy:aJ y=n)(hnk:nm.lookup n=some .local∨nm.lookup n=some .cell)(hsw:∀ env:Env,env.scope.names=nm→env.scope.kind=.function→swapsWith (.ListComp ee [⟨te,ie,ifs,0⟩] sc pos) (some (.Name n p)) spos.line env=pure true)
  (h1:jr cx Φ d nm te it ie)(h2:SE cx Φ d (aV nm sc.names) elt ee)(h3:lU cx Φ d (aV nm sc.names) cnd ifs):S1 cx Φ d nm (.asg y (.cmp1 m elt tg it cnd)) (.Assign [.Name n p] (.ListComp ee [⟨te,ie,ifs,0⟩] sc pos) spos):=
 have ok:=eq_96 ok
 eq_331 ok.kind ok.nd hf sx hy hnk hsw fun ρ σ K A env h₀ ov as s RR E hx H t=>eq_329 ok htg h1 h2 h3 hx H t
end
section
variable {cx:Cx}{Φ:b9}{d:Nat}{nm nm':List (Str×NameKind)}{ρ ρ' ρb:aN}{σ:ak}{A:Around}{env cenv:Env}{h₀:Heap}{ov nw own:List Addr}{as as' as'':List (Addr×Addr)}{s s' s'':Shared}{la:Addr}
theorem eq_332 {tg:Tg}(h:n0 tg ρ=true):∀ y∈br tg,ρ.lookup y=none:=fun y hy=>by
 have:=(List.all_eq_true.mp h) y hy
 simpa using this
theorem eq_333 {elt i1 i2:T}{t1 t2:Tg}{ee te1 ie1 te2 ie2:Expr}{sc:Scope}{pos:Pos}{K:KP}{RR:Value→Addr→Result→Shared→Prop}{E:VS}(ok:CompSc nm (br t1++br t2) sc)(htg1:dG sc.names t1 te1)(htg2:dG sc.names t2 te2)
  (hf2:∀ env (x:Value),foldedSetIterable ie2 env x=pure x)
  (h1:jr cx Φ d nm te1 i1 ie1)(h2:jr cx Φ d (aV nm sc.names) te2 i2 ie2)(h3:SE cx Φ d (aV nm sc.names) elt ee)(hx:bR cx.P.tab Φ (.cmp2 elt t1 i1 t2 i2) ρ σ K)(H:Here cx d nm ρ σ A env h₀ ov as s)
  (t:∀ pv σ2 as2 s' la L,K pv σ2→Fw as as2 s s'→St cx h₀ ([L]++ov) as2 σ2 s'.heap→az cx s'.heap (Fz ([L]++ov) as2) as2 pv (.ref la)→s.heap.get? L=none→(∃ m,s'.heap.Ns L m)→RR (.ref la) L (.ok .next) s') :
  closureFor sc env=pure (eH env.cells sc.names [])∧
  wpAny (model cx.prog cx.w) A (eval ie1 env) (fun x s₁=>wpAny (model cx.prog cx.w) A (pyIter x) (fun it s₂=>wpAny (model cx.prog cx.w) A (newList []) (fun acc s₃=>
   wpAny (model cx.prog cx.w) A (newFunctionEnv sc env.globals (eH env.cells sc.names []) [] env.qual none .none (some env)) (fun cenv s₄=>
    codeAny (model cx.prog cx.w) A (.compStart (.ListComp ee [⟨te1,ie1,[],0⟩,⟨te2,ie2,[],0⟩] sc pos) 0 it acc {cenv with scope:=relabel sc env}) (RR acc cenv.locals) s₄) E s₃) E s₂) E s₁) E s:=by
 refine eq_327 ok h1 hx H (fun pv σ k=>?_) fun pv σ1 itv as1 s1 nw xs Inv la L k1 hxs hn hap hfr hla C W inv f hCo hCf hcl=>?_
 ·obtain⟨_,e,_⟩:=rf k
  exact⟨_,e⟩
 rw[hxs] at k1
 obtain⟨hz,k1⟩:=rt k1
 have hz:=Nat.le_of_ble_eq_true hz
 have hla':la∈(la::b8 sc env L)++ov:=mem_append_left _ mem_cons_self
 have hLo:L∈b8 sc env L:=mem_cons_self
 have nl:(bD sc env L).locals≠la:=fun e=>hla ((show (bD sc env L).locals=L from rfl)▸e▸hLo)
 have look:∀ {x:PV}{ρ1:aN}{ρ3:aN},bo t1 x ρ=some ρ1→bo t1 x (dH (br t1++br t2) ρ)=some ρ3→n0 t2 ρ1=true→∀ y,ρ1.lookup y=ρ3.lookup y:=fun {x ρ1 ρ3} e1 e3 hno y=>by
  obtain⟨ρ0,e0,h0⟩:=(eq_23 e1).2 (dH (br t1++br t2) ρ)
  rw[e0] at e3
  cases e3
  by_cases h1:y∈br t1
  ·exact h0 y fun hy=>absurd h1 hy
  ·by_cases h2:y∈br t2
   ·rw[eq_332 hno y h2,(eq_23 e0).1 y h1,eq_22,if_pos (mem_append_right _ h2)]
   ·exact h0 y fun hy=>by rw[eq_22,if_neg (by simp[h1,h2])]
 refine eq_166 (g:=⟨te1,ie1,[],0⟩) rfl rfl (fun J J J h=>h) rfl (fun Q E q=>W.self inv q) ?_
 refine eq_172 (ownA:=b8 sc env L) (tg:=t1) (N:=100000) (c:=300) rfl (fun J J J h=>h) (eq_636 ee te1 ie1 te2 ie2 sc pos itv (.ref la) (bD sc env L)) W hla' hla (fun b hb=>mem_append_left _ (mem_cons_of_mem _ hb)) hap hLo
  hCo (fun n c h J hc=>hCf n c hc (eq_174 ok.nd htg1 h)) (eq_173 ok.nd htg1) (fun y hy=>by rw[eq_22,if_pos (mem_append_left _ hy)]) (fun x σ K' hF=>?_) (fun x ρ3 σ2 K' as2 s2 ds Q E hF hb C2 hN tt=>?_) hn k1 C inv f.fs (by simp;lia) (fun es σ' as' s' k f' C' hl=>?_)
 ·obtain⟨ρ1,e1,hF⟩:=rf hF
  obtain⟨ρ0,e0,_⟩:=(eq_23 e1).2 (dH (br t1++br t2) ρ)
  exact⟨ρ0,e0⟩
 ·obtain⟨ρ1,e1,hF⟩:=rf hF
  have hno:=(rt hF).1;have hF:=(rt hF).2
  have lk:=look e1 hb hno
  have C2':=C2.congr lk
  have hlan:la∈nw++((la::b8 sc env L)++ov):=mem_append_right _ hla'
  refine wpAny_bind (wpAny_mono (h2 ρ1 σ2 _ A _ h₀ _ as2 s2 (fun it2 s₂=>wpAny (model cx.prog cx.w) A (runOwn (.compStart (.ListComp ee [⟨te1,ie1,[],0⟩,⟨te2,ie2,[],0⟩] sc pos) 1 it2 (.ref la) (bD sc env L)) (bD sc env L)) (fun J s₃=>Q (.again (.compLoop (.ListComp ee [⟨te1,ie1,[],0⟩,⟨te2,ie2,[],0⟩] sc pos) 0 itv (.ref la) (bD sc env L))) s₃) E s₂) E hF C2'.here (fun pv σ k=>?_) fun pv2 σ3 it2 as3 s3 nw2 ys Inv2 k3 hys hn2 f3 st3 W2 inv2=>?_)
   (fun x s₁ h₁=>wpAny_bind (wpAny_standAt (wpAny_bind (wpAny_of_eq (hf2 _ x) (wpAny_bind (wpAny_holding (wpAny_mono h₁ (fun it2 s₂ h₂=>wpAny_bind (wpAny_mono h₂ (fun J s₃ h₃=>wpAny_pure h₃) fun J J e=>e)) fun J J e=>e))))))) fun J J e=>e)
  ·obtain⟨_,e,_⟩:=rf k
   exact⟨_,e⟩
  ·rw[hys] at k3
   have hz2:=(rt k3).1;have k3:=(rt k3).2
   have hz2:=Nat.le_of_ble_eq_true hz2
   have hap2:∀ b∈nw++((la::b8 sc env L)++ov),b∉nw2:=fun b hb q=>by obtain⟨o,e⟩:=C2'.here.st.ovIn b hb;exact rh e (hn2 b q) rfl
   have mv:Mv s2.heap s3.heap (Fz (nw++((la::b8 sc env L)++ov)) as2) (Fz (nw2++(nw++((la::b8 sc env L)++ov))) as3):=fun b o fz e=>
    ⟨⟨fun hb=>(mem_append.mp hb).elim (fun q=>rh e (hn2 b q) rfl) (f3.fz fz e).1,(f3.fz fz e).2⟩,f3.kept b o fz.2 e⟩
   have C3:CH cx d (aV nm sc.names) ρ1 σ3 A (bD sc env L) h₀ (nw2++(nw++((la::b8 sc env L)++ov))) as3 la ds s3:=
    ⟨⟨H.a,H.gd,st3,C2'.here.env.fw' C2'.here.st.ovAs f3 hn2⟩,tF (fun o e=>f3.kept la o (C2'.here.st.ovAs la hlan) e) mv C2'.acc⟩
   refine wpAny_runOwn ?_
   refine eq_166 (g:=⟨te2,ie2,[],0⟩) rfl rfl (fun J J J h=>h) rfl (fun Q E q=>W2.self inv2 q) ?_
   refine eq_172 (ownA:=b8 sc env L) (tg:=t2) (N:=100000) (c:=1) rfl (fun J J J h=>h) (eq_637 ee te1 ie1 te2 ie2 sc pos it2 (.ref la) (bD sc env L)) W2 hlan hla (fun b hb=>mem_append_right _ (mem_append_left _ (mem_cons_of_mem _ hb))) hap2 hLo
    (fun n c h=>mem_append_right _ (hCo n c h)) (fun n c h J hc=>hCf n c hc (eq_174 ok.nd htg2 h)) (eq_173 ok.nd htg2) (eq_332 hno) (fun x σ K' hF=>?_) (fun x ρ4 σ4 K4 as4 s4 ds4 Q4 E4 hF4 hb4 C4 hN4 tt4=>?_) hn2 k3 C3 inv2 f3.fs (by lia) (fun es σ' as' s' k f' C' hl=>?_)
   ·obtain⟨ρ5,e5,hF⟩:=rf hF
    exact⟨ρ5,e5⟩
   ·rw[hb4] at hF4
    have hla4:la∈nw2++(nw++((la::b8 sc env L)++ov)):=mem_append_right _ hlan
    refine wpAny_bind (wpAny_bind (h3 ρ4 σ4 _ A _ h₀ _ as4 s4 _ _ hF4 C4.here fun pv σ5 v as5 s5 k5 f5 st5 r5=>?_))
    obtain⟨x,rfl,k5⟩:=eq_261 k5
    have C5:=C4.fw f5 st5 hla4
    refine wpAny_bind (eq_322 C5 hla4 nl hcl (by exact Nat.le_of_succ_le hN4) r5 fun u s6 f6 C6=>?_)
    exact wpAny_pure (wpAny_pure (tt4 [x] σ5 as5 s6 k5 (f5.fs.trans (f6.mono fun b hb=>by refine(mem_singleton.mp hb)▸?_;exact mem_cons_self)) C6 (Nat.le_refl _)))
   ·exact tt es σ' as' s' k f' (C'.congr fun y=>(lk y).symm) (by lia)
 ·obtain⟨pv2,σ2,as2,k2,fw,st,r⟩:=eq_328 (m:=false) k hLo hla hfr H.st.ovIn f' C'
  exact t pv2 σ2 as2 s' la L k2 fw st r (hfr L (mem_cons_of_mem _ hLo)) C'.here.env.lo
theorem eq_647 {elt i1 i2:T}{t1 t2:Tg}{ee te1 ie1 te2 ie2:Expr}{sc:Scope}{pos:Pos}(ok:cP nm (br t1++br t2) sc=true)(htg1:dG sc.names t1 te1)(htg2:dG sc.names t2 te2)
  (hf1:∀ env (x:Value),foldedSetIterable ie1 env x=pure x)(hf2:∀ env (x:Value),foldedSetIterable ie2 env x=pure x)
  (h1:jr cx Φ d nm te1 i1 ie1)(h2:jr cx Φ d (aV nm sc.names) te2 i2 ie2)(h3:SE cx Φ d (aV nm sc.names) elt ee):SE cx Φ d nm (.cmp2 elt t1 i1 t2 i2) (.ListComp ee [⟨te1,ie1,[],0⟩,⟨te2,ie2,[],0⟩] sc pos):=
 have ok:=eq_96 ok
 eq_330 ok.kind ok.nd hf1 fun ρ σ K A env h₀ ov as s RR E hx H t=>eq_333 ok htg1 htg2 hf2 h1 h2 h3 hx H t
theorem eq_648 {elt i1 i2:T}{t1 t2:Tg}{ee te1 ie1 te2 ie2:Expr}{sc:Scope}{pos spos p:Pos}{y:Nat}{n:Str}(ok:cP nm (br t1++br t2) sc=true)(htg1:dG sc.names t1 te1)(htg2:dG sc.names t2 te2)
  (hf1:∀ env (x:Value),foldedSetIterable ie1 env x=pure x)(hf2:∀ env (x:Value),foldedSetIterable ie2 env x=pure x)
  (sx:bc y=true)(hy:aJ y=n)(hnk:nm.lookup n=some .local∨nm.lookup n=some .cell)(hsw:∀ env:Env,env.scope.names=nm→env.scope.kind=.function→swapsWith (.ListComp ee [⟨te1,ie1,[],0⟩,⟨te2,ie2,[],0⟩] sc pos) (some (.Name n p)) spos.line env=pure true)
  (h1:jr cx Φ d nm te1 i1 ie1)(h2:jr cx Φ d (aV nm sc.names) te2 i2 ie2)(h3:SE cx Φ d (aV nm sc.names) elt ee):S1 cx Φ d nm (.asg y (.cmp2 elt t1 i1 t2 i2)) (.Assign [.Name n p] (.ListComp ee [⟨te1,ie1,[],0⟩,⟨te2,ie2,[],0⟩] sc pos) spos):=
 have ok:=eq_96 ok
 eq_331 ok.kind ok.nd hf1 sx hy hnk hsw fun ρ σ K A env h₀ ov as s RR E hx H t=>eq_333 ok htg1 htg2 hf2 h1 h2 h3 hx H t
end
end Mine
end
section
set_option genSizeOf false
set_option genCtorIdx false
set_option genInjectivity false
namespace Mine
open PySem PySem.W PySem.Calls PyProof.Rows PySem.Spec
noncomputable def zL (z:Addr):List Addr:=[z,z+1,z+2,z+3,z+4]
theorem eq_99 {z b:Addr}(h:b∈zL z):b=z∨b=z+1∨b=z+2∨b=z+3∨b=z+4:=by
 rcases h with _ | ⟨_,_ | ⟨_,_ | ⟨_,_ | ⟨_,_ | ⟨_,h⟩⟩⟩⟩⟩
 ·exact .inl rfl
 ·exact .inr (.inl rfl)
 ·exact .inr (.inr (.inl rfl))
 ·exact .inr (.inr (.inr (.inl rfl)))
 ·exact .inr (.inr (.inr (.inr rfl)))
 ·cases h
theorem eq_649 {z b:Addr}(h:b∈zL z):z≤b:=by
 rcases eq_99 h with rfl | rfl | rfl | rfl | rfl
 ·exact Nat.le_refl _
 all_goals exact Nat.le_add_right _ _
theorem eq_650 {z b:Addr}(h:b∈zL z):b≤z+4:=by
 rcases eq_99 h with rfl | rfl | rfl | rfl | rfl
 ·exact Nat.le_add_right _ _
 all_goals exact Nat.add_le_add_left (qZ rfl) _
theorem eq_24 {z c:Addr}(h:c∉zL z):c≠z∧c≠z+1∧c≠z+2∧c≠z+3∧c≠z+4:=
 have n:=fun {b:Addr}(hb:b∈zL z)(e:c=b)=>h (e▸hb)
 ⟨n mem_cons_self,n (mem_cons_of_mem _ mem_cons_self),n (mem_cons_of_mem _ (mem_cons_of_mem _ mem_cons_self)),n (mem_cons_of_mem _ (mem_cons_of_mem _ (mem_cons_of_mem _ mem_cons_self))),n (mem_cons_of_mem _ (mem_cons_of_mem _ (mem_cons_of_mem _ (mem_cons_of_mem _ mem_cons_self))))⟩
theorem t6 {z:Addr}:z∈zL z:=mem_cons_self
theorem t7 {z:Addr}:z+1∈zL z:=mem_cons_of_mem _ mem_cons_self
theorem t8 {z:Addr}:z+2∈zL z:=mem_cons_of_mem _ (mem_cons_of_mem _ mem_cons_self)
theorem t9 {z:Addr}:z+3∈zL z:=mem_cons_of_mem _ (mem_cons_of_mem _ (mem_cons_of_mem _ mem_cons_self))
theorem tS {z:Addr}:z+4∈zL z:=mem_cons_of_mem _ (mem_cons_of_mem _ (mem_cons_of_mem _ (mem_cons_of_mem _ mem_cons_self)))
def cV (h:Heap)(b:Bool)(l:Addr)(vs:Array Value):Prop:=match b with
 | true=>h.IsTuple l vs
 | false=>h.IsList l vs
def gM (h:Heap)(b:Bool)(i l:Addr) (n:Nat):Prop:=match b with
 | true=>h.IsTupleIter i l n
 | false=>h.IsListIter i l n
theorem cV.at {h h':Heap}{b:Bool}{l:Addr}{vs:Array Value}(x:cV h b l vs)(k:∀ o,h.get? l=some o→h'.get? l=some o):cV h' b l vs:=by
 cases b with
 | true=>obtain⟨o,e,q⟩:=x;exact⟨o,k o e,q⟩
 | false=>obtain⟨o,e,q⟩:=x;exact⟨o,k o e,q⟩
theorem gM.at {h h':Heap}{b:Bool}{i l:Addr}{n:Nat}(x:gM h b i l n)(k:∀ o,h.get? i=some o→h'.get? i=some o):gM h' b i l n:=by
 cases b with
 | true=>obtain⟨o,e,q⟩:=x;exact⟨o,k o e,q⟩
 | false=>obtain⟨o,e,q⟩:=x;exact⟨o,k o e,q⟩
theorem gM.obj {h:Heap}{b:Bool}{i l:Addr}{n:Nat}(x:gM h b i l n):∃ o,h.get? i=some o:=by
 cases b with
 | true=>obtain⟨o,e,q⟩:=x;exact⟨o,e⟩
 | false=>obtain⟨o,e,q⟩:=x;exact⟨o,e⟩
section
variable {prog:Program}{w:World}{A:Around}{E:VS}{s:Shared}
theorem eq_175 {b:Bool}{it l:Addr}{i:Nat}{items:Array Value}{x:Value}{Q:VS}(hit:gM s.heap b it l i)(hl:cV s.heap b l items)(hx:items[i]?=some x)
  (hQ:∀ h',gM h' b it l (i+1)→Heap.SameBut it s.heap h'→Q x {s with heap:=h'}):wpAny (model prog w) A (Builtin.SmallTypes.nextOf (.ref it)) Q E s:=by
 cases b with
 | false=>exact wpAny_nextOf_list_item hit hl hx hQ
 | true=>
  have hit:s.heap.IsTupleIter it l i:=hit
  obtain⟨o,ho,hc,hd⟩:=id hit
  obtain⟨ol,hol,_,nl,hdl⟩:=hl
  refine wpAny_bind (wpAny_callSpecial?_slot (name:=Str.ofString "__next__") hit.typeIs F.slot_tuple_iterator_next
   (wpAny_call_entry F.slot_tuple_iterator_next hit.typeIs F.entry_tuple_iterator_next ?_ (F.args_tuple_iterator_next_1 _)))
  show wpAny _ _ (field (.ref it) 0 >>= _) _ _ s
  refine wpAny_bind (wpAny_field ho hd (x:=.ref l) rfl ?_)
  refine(if_neg (show ¬ ((Value.ref l==Value.none)=true) from Bool.false_ne_true))▸?_
  refine wpAny_bind (wpAny_field ho hd (x:=.int i 0) rfl ?_)
  refine wpAny_bind (wpAny_seqItems hol hdl ?_)
  simp only[Int.toNat_natCast,hx]
  refine wpAny_bind (wpAny_setField ho hd (by simp) (wpAny_pure ⟨x,rfl,wpAny_pure (hQ _ ?_ (Heap.SameBut.update ..))⟩))
  exact⟨_,Heap.get?_update_self _ ho (Obj.isFreed_of_fields (Obj.data_mapFields hd _)),(Obj.cls_mapFields ..).trans hc,by
   rw[Obj.data_mapFields hd];simp[rawInt]⟩
theorem eq_334 {b:Bool}{it l:Addr}{i:Nat}{items:Array Value}{Q:VS}(hh:A.handled=none)(hit:gM s.heap b it l i)(hl:cV s.heap b l items)(hx:items[i]?=none)
  (hE:∀ h' e,Heap.ExtBut it s.heap h'→(∃ o,h'.get? e=some o∧o.cls=.type "StopIteration")→E (.ref e) {s with heap:=h'}):wpAny (model prog w) A (Builtin.SmallTypes.nextOf (.ref it)) Q E s:=by
 cases b with
 | false=>exact wpAny_nextOf_list_end hh hit hl hx hE
 | true=>
  have hit:s.heap.IsTupleIter it l i:=hit
  obtain⟨o,ho,hc,hd⟩:=id hit
  obtain⟨ol,hol,_,nl,hdl⟩:=hl
  refine wpAny_bind (wpAny_callSpecial?_slot (name:=Str.ofString "__next__") hit.typeIs F.slot_tuple_iterator_next
   (wpAny_call_entry F.slot_tuple_iterator_next hit.typeIs F.entry_tuple_iterator_next ?_ (F.args_tuple_iterator_next_1 _)))
  show wpAny _ _ (field (.ref it) 0 >>= _) _ _ s
  refine wpAny_bind (wpAny_field ho hd (x:=.ref l) rfl ?_)
  refine(if_neg (show ¬ ((Value.ref l==Value.none)=true) from Bool.false_ne_true))▸?_
  refine wpAny_bind (wpAny_field ho hd (x:=.int i 0) rfl ?_)
  refine wpAny_bind (wpAny_seqItems hol hdl ?_)
  simp only[Int.toNat_natCast,hx]
  refine wpAny_bind (wpAny_rule (wpAny_bind (wpAny_setField ho hd (by simp) ?_)))
  refine wpAny_bind ?_
  simp only[newExc,newTuple]
  refine wpAny_bind (wpAny_newObj_type ?_ (by size_fits))
  refine wpAny_bind (m:=firstArgMember _ _) (wpAny_of_eq (a:=Value.none) (by first | rfl | (simp only[firstArgMember];rfl)) ?_)
  refine wpAny_newObj_type ?_ (by size_fits)
  simp only[raiseNew]
  refine wpAny_bind (wpAny_handled ?_)
  first | refine(show A.in1.handled=none from hh)▸?_ | rw[hh]
  refine wpAny_bind (wpAny_pure (wpAny_throw ?_))
  exact hE _ _ (((Heap.SameBut.update ..).extBut.push _).push _) ⟨_,Heap.get?_push_size _ rfl,rfl⟩
structure Zp (h:Heap)(b1 b2:Bool)(z l1 l2:Addr) (n:Nat)(f0:Value):Prop where
 hz:IsZip h (z+4) (z+2) (z+3) f0
 hI:IsPair h (z+2) (.ref z) (.ref (z+1))
 hO:∃ a b,IsPair h (z+3) a b
 h1:gM h b1 z l1 n
 h2:gM h b2 (z+1) l2 n
theorem Zp.at {h h':Heap}{b1 b2:Bool}{z l1 l2:Addr}{n:Nat}{f0:Value}(x:Zp h b1 b2 z l1 l2 n f0)(k:∀ b∈zL z,∀ o,h.get? b=some o→h'.get? b=some o):Zp h' b1 b2 z l1 l2 n f0:=
 ⟨k _ tS _ x.hz,k _ t8 _ x.hI,let ⟨a,b,e⟩:=x.hO;⟨a,b,k _ t9 _ e⟩,x.h1.at (k _ t6),x.h2.at (k _ t7)⟩
theorem rK (z:Addr) (i j:Nat)(h:i≠j):z+i≠z+j:=fun e=>h (Nat.add_left_cancel e)
theorem eq_651 {b1 b2:Bool}{z l1 l2:Addr}{n:Nat}{xs ys:Array Value}{x y:Value}{Q:VS}(Z:Zp s.heap b1 b2 z l1 l2 n .none)(q1:cV s.heap b1 l1 xs)(q2:cV s.heap b2 l2 ys)(d1:l1∉zL z)(d2:l2∉zL z)
  (hx:xs[n]?=some x)(hy:ys[n]?=some y)
  (hQ:∀ h',Zp h' b1 b2 z l1 l2 (n+1) (rawInt s.heap.objs.size)→IsPair h' s.heap.objs.size x y→
   (∀ c o,c∉zL z→s.heap.get? c=some o→h'.get? c=some o)→Q (.ref s.heap.objs.size) {s with heap:=h'}) :
  wpAny (model prog w) A (Builtin.«zip.__next__» ⟨[.ref (z+4)],[]⟩) (fun fin s'=>∃ v,fin=.done (.ret v)∧Q v s') E s:=by
 obtain⟨hz,hTI,⟨a,b,hTO⟩,h1,h2⟩:=Z
 have n04:z≠z+4:=rK z 0 4 (by decide)
 have n14:z+1≠z+4:=rK z 1 4 (by decide)
 have n24:z+2≠z+4:=rK z 2 4 (by decide)
 have n34:z+3≠z+4:=rK z 3 4 (by decide)
 have n01:z≠z+1:=rK z 0 1 (by decide)
 have n02:z≠z+2:=rK z 0 2 (by decide)
 have n03:z≠z+3:=rK z 0 3 (by decide)
 have n12:z+1≠z+2:=rK z 1 2 (by decide)
 have n13:z+1≠z+3:=rK z 1 3 (by decide)
 have n23:z+2≠z+3:=rK z 2 3 (by decide)
 have d1:=eq_24 d1
 have d2:=eq_24 d2
 show wpAny _ _ (field (.ref (z+4)) 2 >>= _) _ _ _
 refine wpAny_bind (wpAny_field hz rfl (x:=.bool false) rfl ?_)
 refine wpAny_bind (wpAny_field hz rfl (x:=.ref (z+2)) rfl ?_)
 refine wpAny_bind (wpAny_seqItems hTI rfl ?_)
 refine wpAny_bind ?_
 refine wpAny_bind (wpAny_field hz rfl (x:=.none) rfl (wpAny_pure ?_))
 simp only[if_true]
 refine wpAny_bind (wpAny_rule ?_)
 refine wpAny_bind (wpAny_field hz rfl (x:=.ref (z+3)) rfl ?_)
 refine wpAny_bind (wpAny_setField_rec hz (by simp) fun h₁ hz₁ hs₁=>?_)
 refine wpAny_bind ?_
 simp only[List.zipIdx_cons,List.zipIdx_nil,List.forIn_cons,List.forIn_nil]
 refine wpAny_bind (wpAny_bind (wpAny_onRaise ?_))
 have k1:∀ c o,c≠z+4→s.heap.get? c=some o→h₁.get? c=some o:=fun c o hc e=>rl hs₁ hc e
 refine wpAny_bind (eq_175 (h1.at fun o e=>k1 _ o n04 e) (q1.at fun o e=>k1 _ o d1.2.2.2.2 e) hx fun h₂ h1₂ hs₂=>wpAny_pure ?_)
 have k2:∀ c o,c≠z→h₁.get? c=some o→h₂.get? c=some o:=fun c o hc e=>rl hs₂ hc e
 have hTO₂:IsPair h₂ (z+3) a b:=k2 _ _ n03.symm (k1 _ _ n34 hTO)
 refine wpAny_bind (wpAny_seqItems hTO₂ rfl ?_)
 refine wpAny_bind (wpAny_updateSeq_pair hTO₂ fun h₃ hTO₃ hs₃=>?_)
 have k3:∀ c o,c≠z+3→h₂.get? c=some o→h₃.get? c=some o:=fun c o hc e=>rl hs₃ hc e
 refine wpAny_bind (wpAny_letGo (wpAny_pure ?_))
 refine wpAny_bind (wpAny_bind (wpAny_onRaise ?_))
 refine wpAny_bind (eq_175 (h2.at fun o e=>k3 _ o n13 (k2 _ o n01.symm (k1 _ o n14 e))) (q2.at fun o e=>k3 _ o d2.2.2.2.1 (k2 _ o d2.1 (k1 _ o d2.2.2.2.2 e))) hy fun h₄ h2₄ hs₄=>wpAny_pure ?_)
 have k4:∀ c o,c≠z+1→h₃.get? c=some o→h₄.get? c=some o:=fun c o hc e=>rl hs₄ hc e
 have hTO₄:IsPair h₄ (z+3) x b:=k4 _ _ n13.symm hTO₃
 refine wpAny_bind (wpAny_seqItems hTO₄ rfl ?_)
 refine wpAny_bind (wpAny_updateSeq_pair hTO₄ fun h₅ hTO₅ hs₅=>?_)
 replace hTO₅:IsPair h₅ (z+3) x y:=hTO₅
 have k5:∀ c o,c≠z+3→h₄.get? c=some o→h₅.get? c=some o:=fun c o hc e=>rl hs₅ hc e
 refine wpAny_bind (wpAny_letGo (wpAny_pure (wpAny_pure ?_)))
 refine wpAny_bind (wpAny_seqItems hTO₅ rfl ?_)
 refine wpAny_bind (wpAny_newTuple ?_)
 have hsz:h₅.objs.size=s.heap.objs.size:=by rw[hs₅.1,hs₄.1,hs₃.1,hs₂.1,hs₁.1]
 have hk₅:∀ c o,c≠z+4→c≠z+3→c≠z→c≠z+1→s.heap.get? c=some o→h₅.get? c=some o:=fun c o c1 c2 c3 c4 e=>k5 _ _ c2 (k4 _ _ c4 (k3 _ _ c2 (k2 _ _ c3 (k1 _ _ c1 e))))
 have hz₅:IsZip h₅ (z+4) (z+2) (z+3) .ellipsis:=k5 _ _ n34.symm (k4 _ _ n14.symm (k3 _ _ n34.symm (k2 _ _ n04.symm hz₁)))
 have h1₅:gM h₅ b1 z l1 (n+1):=h1₂.at fun o e=>k5 _ o n03 (k4 _ o n01 (k3 _ o n03 e))
 have h2₅:gM h₅ b2 (z+1) l2 (n+1):=h2₄.at fun o e=>k5 _ o n13 e
 have hzlt:z+4<h₅.objs.size:=Heap.lt_size hz₅
 show wpAny _ _ (Builtin.SmallTypes.ownedTupleHandOut (.ref (z+4)) (.ref h₅.objs.size) >>= _) _ _ _
 refine wpAny_bind ?_
 have hz₆:IsZip (h₅.push {cls:=.type "tuple",data:=.seq #[x,y]}) (z+4) (z+2) (z+3) .ellipsis:=Heap.get?_push_of_some _ hz₅
 refine wpAny_bind (wpAny_setField_rec hz₆ (by simp) fun h₇ hz₇ hs₇=>?_)
 replace hz₇:IsZip h₇ (z+4) (z+2) (z+3) (rawInt h₅.objs.size):=hz₇
 refine wpAny_setField_rec hz₇ (by simp) fun h₈ hz₈ hs₈=>?_
 replace hz₈:IsZip h₈ (z+4) (z+2) (z+3) (rawInt h₅.objs.size):=hz₈
 have up:∀ c o,c≠z+4→h₅.get? c=some o→h₈.get? c=some o:=fun c o c1 e=>rl hs₈ c1 (rl hs₇ c1 (Heap.get?_push_of_some _ e))
 have hT₈:IsPair h₈ h₅.objs.size x y:=rl hs₈ (Nat.ne_of_gt hzlt) (rl hs₇ (Nat.ne_of_gt hzlt) (Heap.get?_push_size _ rfl))
 rw[hsz] at hz₈ hT₈
 refine wpAny_pure ⟨_,rfl,?_⟩
 rw[hsz]
 refine hQ h₈ ⟨hz₈,up _ _ n24 (hk₅ _ _ n24 n23 n02.symm n12.symm hTI),⟨x,y,up _ _ n34 hTO₅⟩,h1₅.at fun o e=>up _ o n04 e,h2₅.at fun o e=>up _ o n14 e⟩ hT₈ fun c o hc e=>?_
 have hc:=eq_24 hc
 exact up c o hc.2.2.2.2 (hk₅ c o hc.2.2.2.2 hc.2.2.2.1 hc.1 hc.2.1 e)
end
end Mine
end
section
namespace Mine
open PySem PySem.W PySem.Calls PyProof.Rows PySem.Spec
section
variable {prog:Program}{w:World}{A:Around}{E:VS}{s:Shared}
theorem eq_652 {b1 b2:Bool}{z l1 l2:Addr}{n:Nat}{xs ys:Array Value}{Q:Fin→Shared→Prop}(hh:A.handled=none)(Z:Zp s.heap b1 b2 z l1 l2 n .none)(q1:cV s.heap b1 l1 xs)(q2:cV s.heap b2 l2 ys)(d1:l1∉zL z)(d2:l2∉zL z)
  (hend:xs[n]?=none∨ys[n]?=none)
  (hE:∀ h' e,(∀ c o,c∉zL z→s.heap.get? c=some o→h'.get? c=some o)→(∃ o,h'.get? e=some o∧o.cls=.type "StopIteration")→E (.ref e) {s with heap:=h'}) :
  wpAny (model prog w) A (Builtin.«zip.__next__» ⟨[.ref (z+4)],[]⟩) Q E s:=by
 obtain⟨hz,hTI,⟨a,b,hTO⟩,h1,h2⟩:=Z
 have n04:z≠z+4:=rK z 0 4 (by decide)
 have n14:z+1≠z+4:=rK z 1 4 (by decide)
 have n34:z+3≠z+4:=rK z 3 4 (by decide)
 have n01:z≠z+1:=rK z 0 1 (by decide)
 have n03:z≠z+3:=rK z 0 3 (by decide)
 have n13:z+1≠z+3:=rK z 1 3 (by decide)
 have d1:=eq_24 d1
 have d2:=eq_24 d2
 show wpAny _ _ (field (.ref (z+4)) 2 >>= _) _ _ _
 refine wpAny_bind (wpAny_field hz rfl (x:=.bool false) rfl ?_)
 refine wpAny_bind (wpAny_field hz rfl (x:=.ref (z+2)) rfl ?_)
 refine wpAny_bind (wpAny_seqItems hTI rfl ?_)
 refine wpAny_bind ?_
 refine wpAny_bind (wpAny_field hz rfl (x:=.none) rfl (wpAny_pure ?_))
 simp only[if_true]
 refine wpAny_bind (wpAny_rule ?_)
 refine wpAny_bind (wpAny_field hz rfl (x:=.ref (z+3)) rfl ?_)
 refine wpAny_bind (wpAny_setField_rec hz (by simp) fun h₁ hz₁ hs₁=>?_)
 have k1:∀ c o,c≠z+4→s.heap.get? c=some o→h₁.get? c=some o:=fun c o hc e=>rl hs₁ hc e
 refine wpAny_bind ?_
 simp only[List.zipIdx_cons,List.zipIdx_nil,List.forIn_cons,List.forIn_nil]
 refine wpAny_bind (wpAny_bind (wpAny_onRaise ?_))
 have mem:∀ c,c∉zL z→c≠z∧c≠z+1∧c≠z+3∧c≠z+4:=fun c hc=>by
  have hc:=eq_24 hc
  exact⟨hc.1,hc.2.1,hc.2.2.2.1,hc.2.2.2.2⟩
 cases hx:xs[n]? with
 | none=>
  refine wpAny_bind (eq_334 hh (h1.at fun o e=>k1 _ o n04 e) (q1.at fun o e=>k1 _ o d1.2.2.2.2 e) hx fun h₂ e hs₂ he=>?_)
  obtain⟨oe,hoe,hce⟩:=he
  have hz₂:IsZip h₂ (z+4) (z+2) (z+3) .ellipsis:=hs₂ _ _ n04.symm hz₁
  have hez:e≠z+4:=fun x=>by subst x;rw[hz₂] at hoe;cases hoe;simp at hce
  refine wpAny_setField_rec hz₂ (by simp) fun h₃ J hs₃=>hE h₃ e (fun c o hc x=>?_) ⟨oe,rl hs₃ hez hoe,hce⟩
  obtain⟨c1,c2,c3,c4⟩:=mem c hc
  exact rl hs₃ c4 (hs₂ _ _ c1 (k1 _ _ c4 x))
 | some x=>
  have hy:ys[n]?=none:=by rcases hend with h | h;rw[hx] at h;cases h;exact h
  refine wpAny_bind (eq_175 (h1.at fun o e=>k1 _ o n04 e) (q1.at fun o e=>k1 _ o d1.2.2.2.2 e) hx fun h₂ h1₂ hs₂=>wpAny_pure ?_)
  have k2:∀ c o,c≠z→h₁.get? c=some o→h₂.get? c=some o:=fun c o hc e=>rl hs₂ hc e
  have hTO₂:IsPair h₂ (z+3) a b:=k2 _ _ n03.symm (k1 _ _ n34 hTO)
  refine wpAny_bind (wpAny_seqItems hTO₂ rfl ?_)
  refine wpAny_bind (wpAny_updateSeq_pair hTO₂ fun h₃ hTO₃ hs₃=>?_)
  have k3:∀ c o,c≠z+3→h₂.get? c=some o→h₃.get? c=some o:=fun c o hc e=>rl hs₃ hc e
  refine wpAny_bind (wpAny_letGo (wpAny_pure ?_))
  refine wpAny_bind (wpAny_bind (wpAny_onRaise ?_))
  refine wpAny_bind (eq_334 hh (h2.at fun o e=>k3 _ o n13 (k2 _ o n01.symm (k1 _ o n14 e))) (q2.at fun o e=>k3 _ o d2.2.2.2.1 (k2 _ o d2.1 (k1 _ o d2.2.2.2.2 e))) hy fun h₄ e hs₄ he=>?_)
  obtain⟨oe,hoe,hce⟩:=he
  have hz₄:IsZip h₄ (z+4) (z+2) (z+3) .ellipsis:=hs₄ _ _ n14.symm (k3 _ _ n34.symm (k2 _ _ n04.symm hz₁))
  have hez:e≠z+4:=fun x=>by subst x;rw[hz₄] at hoe;cases hoe;simp at hce
  refine wpAny_setField_rec hz₄ (by simp) fun h₅ J hs₅=>hE h₅ e (fun c o hc x=>?_) ⟨oe,rl hs₅ hez hoe,hce⟩
  obtain⟨c1,c2,c3,c4⟩:=mem c hc
  exact rl hs₅ c4 (hs₄ _ _ c2 (k3 _ _ c3 (k2 _ _ c1 (k1 _ _ c4 x))))
theorem eq_653 {b1 b2:Bool}{z l1 l2:Addr}{n:Nat}{xs ys:Array Value}{x y:Value}{Q:Option Value→Shared→Prop}(Z:Zp s.heap b1 b2 z l1 l2 n .none)(q1:cV s.heap b1 l1 xs)(q2:cV s.heap b2 l2 ys)(d1:l1∉zL z)(d2:l2∉zL z)
  (hx:xs[n]?=some x)(hy:ys[n]?=some y)
  (hQ:∀ h',Zp h' b1 b2 z l1 l2 (n+1) (rawInt s.heap.objs.size)→IsPair h' s.heap.objs.size x y→
   (∀ c o,c∉zL z→s.heap.get? c=some o→h'.get? c=some o)→Q (some (.ref s.heap.objs.size)) {s with heap:=h'}) :
  wpAny (model prog w) A (pyNext (.ref (z+4))) Q E s:=by
 have hT:s.TypeIs (.ref (z+4)) "zip" :=⟨_,Z.hz,rfl⟩
 exact wpAny_bind (wpAny_attempt (wpAny_callSpecial?_slot (name:=Str.ofString "__next__") hT F.slot_zip_next
  (wpAny_call_entry F.slot_zip_next hT F.entry_zip_next (eq_651 Z q1 q2 d1 d2 hx hy fun h' a1 a2 a3=>wpAny_pure (hQ h' a1 a2 a3)) (F.args_zip_next_1 _))))
theorem eq_335 {b1 b2:Bool}{z l1 l2:Addr}{n:Nat}{xs ys:Array Value}{Q:Option Value→Shared→Prop}(hh:A.handled=none)(Z:Zp s.heap b1 b2 z l1 l2 n .none)(q1:cV s.heap b1 l1 xs)(q2:cV s.heap b2 l2 ys)(d1:l1∉zL z)(d2:l2∉zL z)
  (hend:xs[n]?=none∨ys[n]?=none)
  (hQ:∀ h',(∀ c o,c∉zL z→s.heap.get? c=some o→h'.get? c=some o)→Q none {s with heap:=h'}):wpAny (model prog w) A (pyNext (.ref (z+4))) Q E s:=by
 have hT:s.TypeIs (.ref (z+4)) "zip" :=⟨_,Z.hz,rfl⟩
 refine wpAny_bind (wpAny_attempt (wpAny_callSpecial?_slot (name:=Str.ofString "__next__") hT F.slot_zip_next
  (wpAny_call_entry F.slot_zip_next hT F.entry_zip_next (eq_652 hh Z q1 q2 d1 d2 hend fun h' e hk he=>?_) (F.args_zip_next_1 _))))
 obtain⟨o,ho,hc⟩:=he
 refine wpAny_bind (wpAny_isInstance (T:="StopIteration") (b:=true) ⟨o,ho,hc⟩ isSubtype_stop ?_)
 exact wpAny_pure (hQ _ hk)
end
noncomputable abbrev mu (b:Bool)(l:Addr):Obj:=match b with
 | true=>{cls:=.type "tuple_iterator",data:=.fields #[.ref l,.int 0 0]}
 | false=>{cls:=.type "list_iterator",data:=.fields #[.ref l,.int 0 0]}
noncomputable abbrev pe (h:Heap)(b1:Bool)(l1:Addr):Heap:=h.push (mu b1 l1)
noncomputable abbrev pf (h:Heap)(b1 b2:Bool)(l1 l2:Addr):Heap:=(pe h b1 l1).push (mu b2 l2)
noncomputable abbrev pg (h:Heap)(b1 b2:Bool)(l1 l2:Addr):Heap:=(pf h b1 b2 l1 l2).push {cls:=.type "tuple",data:=.seq #[.ref h.objs.size,.ref (pe h b1 l1).objs.size]}
noncomputable abbrev oB (h:Heap)(b1 b2:Bool)(l1 l2:Addr):Heap:=(pg h b1 b2 l1 l2).push {cls:=.type "tuple",data:=.seq #[.none,.none]}
noncomputable abbrev nT (h:Heap)(b1 b2:Bool)(l1 l2:Addr):Heap:=(oB h b1 b2 l1 l2).push {cls:=.type "zip",data:=.fields #[.none,.bool false,.bool false,.ref (pf h b1 b2 l1 l2).objs.size,.ref (pg h b1 b2 l1 l2).objs.size]}
set_option maxHeartbeats 4000000 in
theorem eq_654 (l1 l2:Addr)(xs ys:Array Value) :
  Meets (Builtin.«zip.__new__» ⟨[.type "zip",.ref l1,.ref l2],[]⟩) (fun J R s=>cV s.heap false l1 xs∧cV s.heap true l2 ys∧
   R (.ok (.ret (.ref (oB s.heap false true l1 l2).objs.size))) {s with heap:=nT s.heap false true l1 l2}):=
 .of_wp fun prog w A R s h=>by
  obtain⟨hp,g,d,tk,os⟩:=s;obtain⟨hl1,hl2,h⟩:=h
  have hsub:=sub_zip
  have hL1:Heap.IsList (Shared.heap ⟨hp,g,d,tk,os⟩) l1 xs:=hl1
  have hL2:Heap.IsTuple (Shared.heap ⟨hp.push {cls:=.type "list_iterator",data:=.fields #[.ref l1,.int 0 0]},g,d,tk,os⟩) l2 ys:=Heap.IsTuple.push hl2 _
  wp_walk using wpAny_pyIter_list hL1,wpAny_pyIter_tuple hL2
  exact⟨_,rfl,h⟩
set_option maxHeartbeats 4000000 in
theorem eq_655 (l1 l2:Addr)(xs ys:Array Value) :
  Meets (Builtin.«zip.__new__» ⟨[.type "zip",.ref l1,.ref l2],[]⟩) (fun J R s=>cV s.heap true l1 xs∧cV s.heap true l2 ys∧
   R (.ok (.ret (.ref (oB s.heap true true l1 l2).objs.size))) {s with heap:=nT s.heap true true l1 l2}):=
 .of_wp fun prog w A R s h=>by
  obtain⟨hp,g,d,tk,os⟩:=s;obtain⟨hl1,hl2,h⟩:=h
  have hsub:=sub_zip
  have hL1:Heap.IsTuple (Shared.heap ⟨hp,g,d,tk,os⟩) l1 xs:=hl1
  have hL2:Heap.IsTuple (Shared.heap ⟨hp.push {cls:=.type "tuple_iterator",data:=.fields #[.ref l1,.int 0 0]},g,d,tk,os⟩) l2 ys:=Heap.IsTuple.push hl2 _
  wp_walk using wpAny_pyIter_tuple hL1,wpAny_pyIter_tuple hL2
  exact⟨_,rfl,h⟩
theorem eq_656 (b1:Bool)(l1 l2:Addr)(xs ys:Array Value) :
  Meets (Builtin.«zip.__new__» ⟨[.type "zip",.ref l1,.ref l2],[]⟩) (fun J R s=>cV s.heap b1 l1 xs∧cV s.heap true l2 ys∧
   R (.ok (.ret (.ref (oB s.heap b1 true l1 l2).objs.size))) {s with heap:=nT s.heap b1 true l1 l2}):=by
 cases b1
 ·exact eq_654 l1 l2 xs ys
 ·exact eq_655 l1 l2 xs ys
section
variable {prog:Program}{w:World}{A:Around}{E:VS}{s:Shared}
theorem eq_657 {b1:Bool}{l1 l2:Addr}{xs ys:Array Value}{Q:VS}(hl1:cV s.heap b1 l1 xs)(hl2:cV s.heap true l2 ys)
  (h:∀ h',Zp h' b1 true s.heap.objs.size l1 l2 0 .none→(∀ c o,s.heap.get? c=some o→h'.get? c=some o)→Q (.ref (s.heap.objs.size+4)) {s with heap:=h'}) :
  wpAny (model prog w) A (call (.type "zip") [.ref l1,.ref l2]) Q E s:=by
 refine callType_new F.called_zip (by decide) (F.typeCall_zip_2 _ _) (F.newCall_zip_2 _ _) (fun obj=>F.args_object_init_3 obj _ _) F.entry_zip_new
  (eq_656 b1 l1 l2 xs ys) ⟨hl1,hl2,?_⟩
 have fr:∀ b l,(mu b l).isFreed=false:=fun b l=>by cases b<;>rfl
 have z1:(pe s.heap b1 l1).objs.size=s.heap.objs.size+1:=Heap.size_push ..
 have z2:(pf s.heap b1 true l1 l2).objs.size=s.heap.objs.size+2:=by rw[Heap.size_push,z1]
 have z3:(pg s.heap b1 true l1 l2).objs.size=s.heap.objs.size+3:=by rw[Heap.size_push,z2]
 have z4:(oB s.heap b1 true l1 l2).objs.size=s.heap.objs.size+4:=by rw[Heap.size_push,z3]
 have g5:(nT s.heap b1 true l1 l2).get? (oB s.heap b1 true l1 l2).objs.size=some _:=Heap.get?_push_size _ rfl
 have g4:(nT s.heap b1 true l1 l2).get? (pg s.heap b1 true l1 l2).objs.size=some _:=Heap.get?_push_of_some _ (Heap.get?_push_size _ rfl)
 have g3:(nT s.heap b1 true l1 l2).get? (pf s.heap b1 true l1 l2).objs.size=some _:=Heap.get?_push_of_some _ (Heap.get?_push_of_some _ (Heap.get?_push_size _ rfl))
 have g2:(nT s.heap b1 true l1 l2).get? (pe s.heap b1 l1).objs.size=some _:=Heap.get?_push_of_some _ (Heap.get?_push_of_some _ (Heap.get?_push_of_some _ (Heap.get?_push_size _ (fr true l2))))
 have g1:(nT s.heap b1 true l1 l2).get? s.heap.objs.size=some _:=Heap.get?_push_of_some _ (Heap.get?_push_of_some _ (Heap.get?_push_of_some _ (Heap.get?_push_of_some _ (Heap.get?_push_size _ (fr b1 l1)))))
 show _∧_
 rw[z2,z3,z4] at g5
 rw[z1,z2] at g3
 rw[z3] at g4
 rw[z1] at g2
 rw[z4]
 exact⟨⟨_,g5,rfl⟩,h _ ⟨g5,g3,⟨_,_,g4⟩,(by cases b1<;>exact⟨_,g1,rfl,rfl⟩),⟨_,g2,rfl,rfl⟩⟩ fun c o x=>
  Heap.get?_push_of_some _ (Heap.get?_push_of_some _ (Heap.get?_push_of_some _ (Heap.get?_push_of_some _ (Heap.get?_push_of_some _ x))))⟩
end
theorem eq_176 {xs:List PV}:∀ {ys:List PV}{i:Nat},(jU xs ys)[i]?=(match xs[i]?,ys[i]? with
  | some a,some b=>some (dX [a,b])
  | _,_=>none):=by
 induction xs with
 | nil=>exact rfl
 | cons x xs ih=>
  intro ys i
  cases ys with
  | nil=>
   show none=_
   cases (x::xs)[i]?<;>rfl
  | cons y ys=>
   cases i with
   | zero=>rfl
   | succ i=>exact ih
section
variable {cx:Cx}{Φ:b9}{d:Nat}{nm:List (Str×NameKind)}{ρ ρ':aN}{σ:ak}{A:Around}{env:Env}{h₀:Heap}{ov nw own:List Addr}{as as' as'':List (Addr×Addr)}{s s' s'':Shared}
theorem eq_658 {pv:PV}{xs:List PV}(e:bw [] pv=some xs) :
  ∃ b:Bool,∀ {h:Heap}{F:AP}{as:List (Addr×Addr)}{v:Value},az cx h F as pv v→∃ l vs,v=.ref l∧F l∧cV h b l (List.toArray vs)∧VReps cx h F as xs vs∧∃ o,h.get? l=some o:=by
 cases pv with
 | p d=>cases d with
  | tup q=>
   cases e
   refine⟨true,fun {h F as v} r=>?_⟩
   obtain⟨a,vs,rfl,f,ht,q⟩:=r
   obtain⟨n,ho⟩:=ht
   exact⟨a,vs,rfl,f,⟨_,ho,rfl,n,rfl⟩,sa q,_,ho⟩
  | lst q=>
   cases e
   refine⟨false,fun {h F as v} r=>?_⟩
   obtain⟨a,vs,rfl,f,ht,q⟩:=r
   obtain⟨n,ho⟩:=id ht
   exact⟨a,vs,rfl,f,ht.isList,sa q,_,ho⟩
  | _=>cases e
 | mix q=>
  cases e
  refine⟨true,fun {h F as v} r=>?_⟩
  obtain⟨a,vs,rfl,f,ht,q⟩:=r
  obtain⟨n,ho⟩:=ht
  exact⟨a,vs,rfl,f,⟨_,ho,rfl,n,rfl⟩,q,_,ho⟩
 | _=>cases e
theorem eq_336 {pv:PV}{xs:List PV}(e:mh pv=some xs) :
  ∀ {h:Heap}{F:AP}{as:List (Addr×Addr)}{v:Value},az cx h F as pv v→∃ l vs,v=.ref l∧F l∧cV h true l (List.toArray vs)∧VReps cx h F as xs vs∧∃ o,h.get? l=some o:=by
 intro h F as v r
 cases pv with
 | p d=>cases d with
  | tup q=>
   cases e
   obtain⟨a,vs,rfl,f,ht,q⟩:=r
   obtain⟨n,ho⟩:=ht
   exact⟨a,vs,rfl,f,⟨_,ho,rfl,n,rfl⟩,sa q,_,ho⟩
  | _=>cases e
 | mix q=>
  cases e
  obtain⟨a,vs,rfl,f,ht,q⟩:=r
  obtain⟨n,ho⟩:=ht
  exact⟨a,vs,rfl,f,⟨_,ho,rfl,n,rfl⟩,q,_,ho⟩
 | _=>cases e
theorem eq_659 {elts:List Expr}{k:Nat}{pos:Pos}{z:Addr}{p1 p2:PV}{xs ys:List PV}{b1 b2:Bool}
  (h1:∀ {h:Heap}{F:AP}{as:List (Addr×Addr)}{v:Value},az cx h F as p1 v→∃ l vs,v=.ref l∧F l∧cV h b1 l (List.toArray vs)∧VReps cx h F as xs vs∧∃ o,h.get? l=some o)
  (h2:∀ {h:Heap}{F:AP}{as:List (Addr×Addr)}{v:Value},az cx h F as p2 v→∃ l vs,v=.ref l∧F l∧cV h b2 l (List.toArray vs)∧VReps cx h F as ys vs∧∃ o,h.get? l=some o) :
  Walk cx (.Tuple elts k pos) (.ref (z+4)) (zL z) (.mix (jU xs ys)) (jU xs ys) (fun i ov as h=>∃ l1 l2,Zp h b1 b2 z l1 l2 i .none∧az cx h (Fz ov as) as p1 (.ref l1)∧az cx h (Fz ov as) as p2 (.ref l2)∧l1∉zL z∧l2∉zL z) where
 step:=fun {A h₀ ov as σ s i Qn Qs E E'} hA inv st hq qn qs=>by
  obtain⟨l1,l2,Z,r1,r2,d1,d2⟩:=inv
  obtain⟨l,vs,e1,f1,q1,rs1,_⟩:=h1 r1
  cases e1
  obtain⟨l,us,e2,f2,q2,rs2,_⟩:=h2 r2
  cases e2
  have len1:=rs1.len
  have len2:=rs2.len
  cases hx:xs[i]? with
  | none=>
   have hv:vs.toArray[i]?=none:=by
    rw[List.getElem?_toArray]
    exact List.getElem?_eq_none_iff.mpr (len1▸List.getElem?_eq_none_iff.mp hx)
   refine eq_335 hA Z q1 q2 d1 d2 (.inl hv) fun h' kp=>?_
   exact qn (by rw[eq_176,hx]) h' s.toks kp
  | some x=>
  cases hy:ys[i]? with
  | none=>
   have hv:us.toArray[i]?=none:=by
    rw[List.getElem?_toArray]
    exact List.getElem?_eq_none_iff.mpr (len2▸List.getElem?_eq_none_iff.mp hy)
   refine eq_335 hA Z q1 q2 d1 d2 (.inr hv) fun h' kp=>?_
   exact qn (by rw[eq_176,hx,hy]) h' s.toks kp
  | some y=>
   obtain⟨u,hu,ru⟩:=eq_4 rs1 hx
   obtain⟨v,hv,rv⟩:=eq_4 rs2 hy
   refine eq_653 Z q1 q2 d1 d2 (x:=u) (y:=v) (by simpa using hu) (by simpa using hv) fun h' Z' hp kp=>?_
   have hT:s.heap.objs.size∉zL z:=fun hm=>by
    exact absurd (Heap.lt_size Z.hz) (Nat.not_lt.mpr (eq_650 hm))
   have fT:Fz (zL z++ov) as s.heap.objs.size:=st.fresh (rp _)
   have fin:∀ h'',Zp h'' b1 b2 z l1 l2 (i+1) .none→(∀ c o,c∉zL z→h'.get? c=some o→h''.get? c=some o)→Qs (.ref s.heap.objs.size) {s with heap:=h''}:=fun h'' Z2 kp2=>by
    have kp':∀ c o,c∉zL z→s.heap.get? c=some o→h''.get? c=some o:=fun c o hc e=>kp2 c o hc (kp c o hc e)
    have mv:=sU (nw:=zL z) (ov:=ov) (as:=as) kp'
    refine qs (dX [x,y]) _ h'' s.toks (by rw[eq_176,hx,hy]) kp' (fun b hb=>?_) (eq_48 (vs:=[u,v]) fT ⟨0,kp2 _ _ hT hp⟩ ⟨u,[v],rfl,ru.mv mv (cB.refl _),v,[],rfl,rv.mv mv (cB.refl _),rfl⟩) ⟨l1,l2,Z2,r1.mv mv (cB.refl _),r2.mv mv (cB.refl _),d1,d2⟩
    rcases eq_99 hb with rfl | rfl | rfl | rfl | rfl
    ·exact Z2.h1.obj
    ·exact Z2.h2.obj
    ·exact⟨_,Z2.hI⟩
    ·obtain⟨a,b,e⟩:=Z2.hO;exact⟨_,e⟩
    ·exact⟨_,Z2.hz⟩
   have same:∀ h'',IsZip h'' (z+4) (z+2) (z+3) .none→Heap.SameBut (z+4) h' h''→Zp h'' b1 b2 z l1 l2 (i+1) .none:=fun h'' hz hs=>
    ⟨hz,rl hs (rK z 2 4 (by decide)) Z'.hI,let ⟨a,b,e⟩:=Z'.hO;⟨a,b,rl hs (rK z 3 4 (by decide)) e⟩,Z'.h1.at fun o e=>rl hs (rK z 0 4 (by decide)) e,Z'.h2.at fun o e=>rl hs (rK z 1 4 (by decide)) e⟩
   exact wpAny_letOwnedTupleGo_zip (s:={s with heap:=h'}) Z'.hz fun h'' hz hs=>fin h'' (same h'' hz hs) fun c o hc e=>rl hs (fun q=>hc (q▸tS)) e
 self:=fun inv q=>by
  obtain⟨l1,l2,Z,_⟩:=inv
  exact wpAny_pyIter_zip Z.hz q
 frame:=fun inv m p k=>by
  obtain⟨l1,l2,Z,r1,r2,d1,d2⟩:=inv
  exact⟨l1,l2,Z.at k,r1.mv m p,r2.mv m p,d1,d2⟩
theorem eq_660 {x y:T}{e1 e2:Expr}{n:Str}{np pos tp:Pos}{elts:List Expr}{k:Nat}(B:BltAt cx nm n (.type "zip"))(hs:cw e1=true)(hs2:cw e2=true)(h1:SE cx Φ d nm x e1)(h2:SE cx Φ d nm y e2):jr cx Φ d nm (.Tuple elts k tp) (.zip x y) (.Call (.Name n np) [e1,e2] [] pos):=fun ρ σ K A env h₀ ov as s Q E hx H hk t=>by
 refine wpAny_Call_ofName (eq_80 H B.hd B.hg B.he B.hv B.hn ?_)
 refine eq_20 (x:=.cons x (.cons y .nil)) (first:=[]) B.hk (by simp[bp,hs,hs2]) (eq_43 hs h1 (eq_43 hs2 h2 eq_82)) (K:=fun vs σ=>nA vs fun va vb=>bQ (bw [] va) fun xs=>bQ (mh vb) fun ys=>K (.mix (jU xs ys)) σ) hx H fun pvs σ' vs as' s' k f st r=>?_
 ·obtain⟨pa,pb,rfl,k⟩:=eq_154 k
  obtain⟨xs,ex,k⟩:=rf k
  obtain⟨ys,ey,k⟩:=rf k
  obtain⟨u,v,rfl,ru,rv⟩:=r.two
  obtain⟨b1,hb1⟩:=eq_658 (cx:=cx) ex
  obtain⟨l1,vs1,rfl,f1,q1,rs1,o1,ho1⟩:=hb1 ru
  obtain⟨l2,vs2,rfl,f2,q2,rs2,o2,ho2⟩:=eq_336 ey rv
  refine eq_657 (b1:=b1) q1 q2 fun h' Z kp=>?_
  have hfr:∀ b∈zL s'.heap.objs.size,s'.heap.get? b=none:=fun b hb=>by
   exact Heap.get?_none_of_le (eq_649 hb)
  have live:∀ b∈zL s'.heap.objs.size,∃ o,h'.get? b=some o:=fun b hb=>by
   rcases eq_99 hb with rfl | rfl | rfl | rfl | rfl
   ·exact Z.h1.obj
   ·exact Z.h2.obj
   ·exact⟨_,Z.hI⟩
   ·obtain⟨a,b,e⟩:=Z.hO;exact⟨_,e⟩
   ·exact⟨_,Z.hz⟩
  have f':=(st.kp kp s'.toks).2
  have mv:=tC (ov:=ov) (as:=as') hfr kp
  refine wpAny_pyIter_zip (s:={s' with heap:=h'}) Z.hz ?_
  refine t (.mix (jU xs ys)) σ' _ as' _ _ (jU xs ys) _ k rfl (fun b hb=>f.old (hfr b hb)) (f.trans f') (St.hide st hfr kp live) (eq_659 (fun r=>hb1 r) (fun r=>eq_336 ey r)) ⟨l1,l2,Z,ru.mv mv (cB.refl _),rv.mv mv (cB.refl _),fun hm=>rh ho1 (hfr l1 hm) rfl,fun hm=>rh ho2 (hfr l2 hm) rfl⟩
end
theorem eq_661 {h:Heap}{F:AP}{us vs:List Value}(p:us.Perm vs):∀ {xs:List D},DReps h F xs vs→∃ zs,zs.Perm xs∧DReps h F zs us:=by
 induction p with
 | nil=>intro xs r;exact⟨xs,List.Perm.refl _,r⟩
 | cons v p ih=>
  intro xs r
  cases xs with
  | nil=>cases r
  | cons x xs=>
   obtain⟨w,t,e,a,b⟩:=r
   cases e
   obtain⟨zs,q,r'⟩:=ih b
   exact⟨x::zs,q.cons x,v,_,rfl,a,r'⟩
 | swap v w l=>
  intro xs r
  match xs,r with
  | [],r=>cases r
  | [_],⟨_,_,e,_,r⟩=>cases e;cases r
  | x::y::xs,⟨_,_,e,a,_,_,e2,b,r⟩=>
   cases e;cases e2
   exact⟨y::x::xs,List.Perm.swap x y xs,w,_,rfl,b,v,_,rfl,a,r⟩
 | trans p1 p2 ih1 ih2=>
  intro xs r
  obtain⟨zs,q,r'⟩:=ih2 r
  obtain⟨ws,q',r''⟩:=ih1 r'
  exact⟨ws,q'.trans q,r''⟩
def mw (vs:List Value):Prop:=∀ v∈vs,∃ x t,v=.str x t
theorem eq_337:∀ {vs:List Value},mw vs→∃ ss,StrsAre vs ss
 | [],_=>⟨[],.nil⟩
 | v::vs,h=>by
  obtain⟨x,t,rfl⟩:=h v mem_cons_self
  obtain⟨ss,hs⟩:=eq_337 fun w hw=>h w (mem_cons_of_mem _ hw)
  exact⟨x::ss,.cons _ _ hs⟩
theorem eq_662 {keys:Array Value}(hk:mw keys.toList)(h2:2≤keys.size):keyKind' keys=pure oneType':=by
 obtain⟨v₁,v₂,rest,e⟩:∃ v₁ v₂ rest,keys.toList=v₁::v₂::rest:=by
  have hl:2≤keys.toList.length:=by rw[Array.length_toList];exact h2
  match keys.toList,hl with
  | [],hl=>simp at hl
  | [_],hl=>simp at hl
  | v₁::v₂::rest,_=>exact⟨v₁,v₂,rest,rfl⟩
 have ek:keys=(v₁::v₂::rest).toArray:=by rw[← e,Array.toArray_toList]
 rw[e] at hk
 rw[ek]
 obtain⟨ss,hs⟩:=eq_337 hk
 exact keyKind_strs hs
theorem eq_663 {keys:Array Value}{vs:List Value}(hk:mw keys.toList):KeysOf PyProof.Rows.strKind (keys.zip vs.toArray):=by
 intro p hp
 rw[ksk_zip] at hp
 obtain⟨x,y⟩:=p
 obtain⟨z,t,rfl⟩:=hk x (List.of_mem_zip hp).1
 exact⟨_,rfl⟩
section
variable {prog:Program}{w:World}{A:Around}{E:VS}{s:Shared}{a kS:Addr}{vs:List Value}{keys:Array Value}{e e1:Nat}{P:PySem.Fin→Shared→Prop}
theorem eq_664 {st:SortSt}(hz:keys.size=vs.length)(hp:(arrOf st).Perm (keys.zip vs.toArray)):((arrOf st).map (·.2)).toList.Perm vs:=by
 have h1:(arrOf st).toList.Perm (keys.toList.zip vs):=by rw[← ksk_zip];exact Array.perm_iff_toList_perm.mp hp
 refine Array.toList_map▸?_
 have h2:(keys.toList.zip vs).map (·.2)=vs:=by
  rw[List.map_snd_zip]
  exact Nat.le_of_eq (show vs.length=keys.toList.length by rw[Array.length_toList];exact hz.symm)
 have:=h1.map (·.2)
 rwa [h2] at this
theorem eq_665 {st:SortSt}(nk:s.heap.get? kS=some (seqObj "list" keys e))(na:s.heap.get? a=some (seqObj "list" #[] e1))(hka:kS≠a)(hz:keys.size=vs.length)(h64:vs.length<64)(hp:(arrOf st).Perm (keys.zip vs.toArray))(hfl:failedOf st=none)
  (h:∀ h' out,out.toList.Perm vs→h'.PlainList a out→(∀ b o,b≠a→b≠kS→s.heap.get? b=some o→h'.get? b=some o)→(∃ o,h'.get? kS=some o)→P (.done (.ret .none)) {s with heap:=h'}) :
  wpAny (model prog w) A (ksk_tail a false e1 (.ref kS) st) P E s:=by
 have hsz:(arrOf st).size=vs.length:=by rw[hp.size_eq,Array.size_zip,hz,size_toArray,Nat.min_self]
 have s1:=Heap.SameBut.update s.heap kS (Obj.mapSeq fun J=>(#[]:Array Value))
 have na1:=(s1.2 a hka.symm).trans na
 have s2:=Heap.SameBut.update (s.heap.update kS (Obj.mapSeq fun J=>(#[]:Array Value))) a (Obj.mapSeq fun J=>(arrOf st).map (·.2))
 have hc2:=get?_update_seq na1 fun J=>(arrOf st).map (·.2)
 have hk2:=get?_update_seq nk fun J=>(#[]:Array Value)
 unfold ksk_tail
 try dsimp only
 refine wpAny_bind (listUpdate_at nk rfl ?_ (by rw[hz,sizeLine_eq];exact re h64 (by simp +arith only)) (Nat.zero_le _))
 refine wpAny_bind (wpAny_letGo ?_)
 refine wpAny_bind (seqEpoch_at na1 rfl ?_)
 simp only[Bool.false_eq_true,if_false]
 refine wpAny_bind (listUpdate_at na1 rfl ?_ (Nat.zero_le _) (by rw[Array.size_map,hsz,sizeLine_eq];exact re h64 (by simp +arith only)))
 refine hfl▸?_
 simp only[bne_self_eq_false,Bool.false_eq_true,if_false]
 exact wpAny_pure (h _ _ (eq_664 hz hp) ⟨_,hc2⟩ (fun b o b1 b2 e=>(s2.2 b b1).trans ((s1.2 b b2).trans e)) ⟨_,(s2.2 kS hka).trans hk2⟩)
theorem eq_666 (nk:s.heap.get? kS=some (seqObj "list" keys e))(na:s.heap.get? a=some (seqObj "list" #[] e1))(hka:kS≠a)(hk:mw keys.toList)(hz:keys.size=vs.length)(h2:2≤vs.length)(h64:vs.length<64)
  (h:∀ h' out,out.toList.Perm vs→h'.PlainList a out→(∀ b o,b≠a→b≠kS→s.heap.get? b=some o→h'.get? b=some o)→(∃ o,h'.get? kS=some o)→P (.done (.ret .none)) {s with heap:=h'}) :
  wpAny (model prog w) A (ksk_end a false vs.toArray e1 (.ref kS) keys) P E s:=by
 have hzs:(keys.zip vs.toArray).size=vs.length:=by rw[Array.size_zip,hz,size_toArray,Nat.min_self]
 unfold ksk_end
 try dsimp only
 simp only[Bool.false_eq_true,if_false]
 rw[if_neg (by rw[size_toArray];lia),if_neg (by rw[size_toArray];lia)]
 rw[eq_662 hk (by exact re (Nat.add_le_add h2 (Nat.le_of_eq hz.symm)) (by simp +arith only))]
 refine wpAny_bind (wpAny_pure ?_)
 refine wpAny_bind (wpAny_mono (wpS_sortRunsK (κ:=PyProof.Rows.strKind) strKind_oneLt (a₀:=keys.zip vs.toArray) (st:=SortSt.mk' oneType' (keys.zip vs.toArray) #[] 7 none)
  (Q:=fun J st'=>(arrOf st').Perm (keys.zip vs.toArray)∧failedOf st'=none)
  (eq_663 hk) ⟨Array.Perm.refl _,rfl,rfl,rfl⟩ (by rw[hzs];exact h2) (by rw[hzs];exact h64) fun st' a1 a2 a3=>⟨a1,a2⟩) ?_ fun J J e=>e)
 rintro ⟨⟨⟩,st'⟩ s' ⟨rfl,hp,hf⟩
 try dsimp only
 exact eq_665 nk na hka hz h64 hp hf h
end
section
variable {cx:Cx}{Φ:b9}{d:Nat}{nm:List (Str×NameKind)}{ρ ρ':aN}{σ:ak}{A:Around}{env:Env}{h₀:Heap}{ov nw own:List Addr}{as as' as'':List (Addr×Addr)}{s s' s'':Shared}{a kS:Addr}{vs:List Value}{xs:List D}{e1 f:Nat}{P:PySem.Fin→Shared→Prop}
set_option tactic.hygienic true in
theorem eq_667 {E:VS}{G:ak→Prop}{asB:List (Addr×Addr)}{sB:Shared}{hid:List Addr}(PO:fH cx Φ d)(hA:AB d A)(hg:Gd cx h₀)(ha:a∈hid)(hkS:kS∈hid)(hka:kS≠a)(hfr:∀ b∈hid,sB.heap.get? b=none)
  (nk:s.heap.get? kS=some (seqObj "list" #[] 0))(na:s.heap.get? a=some (seqObj "list" #[] e1))(h2:2≤vs.length)(h64:vs.length<64)(st:St cx h₀ (hid++ov) as σ s.heap)(fB:Fw asB as sB s)(r:DReps s.heap (Fz (hid++ov) as) xs vs)
  (hx:h9 (fun v σ K=>Φ f [v] σ K) xs σ fun J σ=>G σ)
  (fin:∀ σ' as' s' out,G σ'→Fw asB as' sB s'→St cx h₀ (hid++ov) as' σ' s'.heap→DReps s'.heap (Fz (hid++ov) as') xs vs→out.toList.Perm vs→s'.heap.PlainList a out→P (.done (.ret .none)) s') :
  wpAny (model cx.prog cx.w) A (ksk_rest a (.ref (bN cx f)) false vs.toArray e1 (.ref kS)) P E s:=by
 have hlen:vs.length=xs.length:=r.len
 refine wpAny_bind (wpAny_rule ?_)
 rw[List.forIn_toArray]
 refine wpAny_bind (ksk_fold (fun i s'=>∃ σ' as' kA e,h9 (fun v σ K=>Φ f [v] σ K) (xs.drop i) σ' (fun J σ=>G σ)∧Fw asB as' sB s'∧St cx h₀ (hid++ov) as' σ' s'.heap∧s'.heap.get? kS=some (seqObj "list" kA e)∧s'.heap.get? a=some (seqObj "list" #[] e1)∧
  mw kA.toList∧kA.size=i∧DReps s'.heap (Fz (hid++ov) as') xs vs) vs 0 s ⟨σ,as,#[],0,hx,fB,st,nk,na,(fun J h=>by simp at h),rfl,r⟩ ?step ?done)
 case step=>
  rintro j v s' hv ⟨σ',as',kA,e,hk,fB',st',nk',na',hs,hz,r'⟩
  simp only[Nat.zero_add] at hk hz ⊢
  have hj:j<vs.length:=(List.getElem?_eq_some_iff.mp hv).1
  have hd:xs.drop j=xs[j]'(by exact rZ (Nat.add_le_add hj (Nat.le_of_eq hlen)) (by simp +arith only))::xs.drop (j+1):=List.drop_eq_getElem_cons (by exact rZ (Nat.add_le_add hj (Nat.le_of_eq hlen)) (by simp +arith only))
  rw[hd] at hk
  have rv:VReps cx s'.heap (Fz (hid++ov) as') as' [.p (xs[j]'(by exact rZ (Nat.add_le_add hj (Nat.le_of_eq hlen)) (by simp +arith only)))] [v]:=by
   obtain⟨u,hu,ru⟩:=eq_4 (sa (cx:=cx) (as:=as') r') (i:=j) (v:=.p (xs[j]'(by exact rZ (Nat.add_le_add hj (Nat.le_of_eq hlen)) (by simp +arith only)))) (by simp[List.getElem?_map,List.getElem?_eq_getElem (show j<xs.length by exact rZ (Nat.add_le_add hj (Nat.le_of_eq hlen)) (by simp +arith only))])
   rw[hv] at hu
   cases hu
   exact⟨v,[],rfl,ru,rfl⟩
  refine wpAny_bind (wpAny_attempt ?_)
  refine PO f _ σ' _ A h₀ (hid++ov) as' s' [v] _ _ hk hA hg st' rv fun pv σ2 u as2 s2 k2 f2 st2 r2=>?_
  split at k2
  ·rename_i k
   obtain⟨sk,t,rfl⟩:=r2
   have cvS:Cv as' kS:=st'.ovAs kS (mem_append_left _ hkS)
   have cvA:Cv as' a:=st'.ovAs a (mem_append_left _ ha)
   have nk2:=f2.kept _ _ cvS nk'
   have na2:=f2.kept _ _ cvA na'
   have hz2:kA.size≤sizeLine:=by rw[hz,sizeLine_eq];exact re (Nat.add_le_add hj h64) (by simp +arith only)
   have s3:=Heap.SameBut.update s2.heap kS (Obj.mapSeq (·.push (.str (aJ k) t)))
   have hc:=get?_update_seq nk2 (·.push (.str (aJ k) t))
   refine wpAny_bind (listUpdate_at nk2 rfl ?_ hz2 (by rw[Array.size_push];exact Nat.succ_le_succ hz2))
   have kp:∀ b o,b∉hid++ov→s2.heap.get? b=some o→(s2.heap.update kS (Obj.mapSeq (·.push (.str (aJ k) t)))).get? b=some o:=fun b o hb e=>(s3.2 b (fun q=>hb (by rw[q];exact mem_append_left _ hkS))).trans e
   have lv:∀ b∈hid++ov,∃ o,(s2.heap.update kS (Obj.mapSeq (·.push (.str (aJ k) t)))).get? b=some o:=fun b hb=>by
    obtain⟨o,e⟩:=st2.ovIn b hb
    by_cases q:b=kS
    ·rw[q];exact⟨_,hc⟩
    ·exact⟨o,(s3.2 b q).trans e⟩
   refine wpAny_pure ⟨rfl,σ2,as2,_,_,k2,((fB'.trans f2).over hfr (fun b o hb e=>(s3.2 b (fun q=>hb (by rw[q];exact hkS))).trans e) s2.toks),st2.over kp lv,hc,(s3.2 a hka.symm).trans na2,?_,by rw[Array.size_push,hz],?_⟩
   ·intro v hv
    rw[Array.toList_push] at hv
    rcases mem_append.mp hv with h | h
    ·exact hs v h
    ·refine(mem_singleton.mp h)▸?_;exact⟨_,_,rfl⟩
   ·have m2:Mv s'.heap s2.heap (Fz (hid++ov) as') (Fz (hid++ov) as2):=f2.mv
    exact DReps.mv (eq_52 kp) (r'.mv m2)
  ·exact k2.elim
 case done=>
  rintro s' ⟨σ',as',kA,e,hk,fB',st',nk',na',hs,hz,r'⟩
  rw[List.drop_of_length_le (by exact re (Nat.le_of_eq hlen.symm) (by simp +arith only))] at hk
  try dsimp only
  refine wpAny_bind (listItems_at nk' rfl ?_)
  refine eq_666 nk' na' hka hs (by rw[hz];lia) h2 h64 fun h' out hp hl kp2 lk=>?_
  have kp:∀ b o,b∉hid++ov→s'.heap.get? b=some o→h'.get? b=some o:=fun b o hb e=>kp2 b o (fun q=>hb (by rw[q];exact mem_append_left _ ha)) (fun q=>hb (by rw[q];exact mem_append_left _ hkS)) e
  have lv:∀ b∈hid++ov,∃ o,h'.get? b=some o:=fun b hb=>by
   obtain⟨o,e⟩:=st'.ovIn b hb
   by_cases q:b=kS
   ·rw[q];exact lk
   ·by_cases q2:b=a
    ·rw[q2];obtain⟨n,e⟩:=hl;exact⟨_,e⟩
    ·exact⟨o,kp2 b o q2 q e⟩
  exact fin σ' as' {s' with heap:=h'} out hk (fB'.over hfr (fun b o hb e=>kp2 b o (fun q=>hb (by rw[q];exact ha)) (fun q=>hb (by rw[q];exact hkS)) e) s'.toks) (st'.over kp lv) (r'.mv (eq_52 kp)) hp hl
theorem eq_668 {E:VS}{Q:VS}{K:KP}{l:Addr}(PO:fH cx Φ d)(hA:AB d A.in1.in1)(hg:Gd cx h₀)(hl:s.heap.PlainList l (List.toArray vs))(h2:2≤vs.length)(h64:vs.length<64)(st:St cx h₀ ov as σ s.heap)(r:DReps s.heap (Fz ov as) xs vs)
  (hx:h9 (fun v σ K=>Φ f [v] σ K) xs σ fun J σ=>∀ zs:List D,zs.Perm xs→K (.p (.lst zs)) σ)(t:di cx h₀ ov as s K Q) :
  wpAny (model cx.prog cx.w) A (call (.builtin "sorted") [.ref l] [(Str.ofString "key",.ref (bN cx f))]) Q E s:=by
 refine call_function_entry_kw kind_sorted plain_sorted entry_sorted (ksk_s1 _ _) ?_
 refine wpAny_bind (m:=checkCount "sorted" 1 1 _) (wpAny_pure ?_)
 refine wpAny_bind (collect_list hl.isList ?_ (by rw[sizeLine_eq];exact re h64 (by simp +arith only)))
 refine wpAny_bind (wpAny_newList ?_ (by rw[sizeLine_eq];exact re h64 (by simp +arith only)))
 generalize hH1:(s.heap.push (seqObj "list" #[] 0)).update s.heap.objs.size (Obj.mapSeq (·++vs.toArray))=H1
 have sz1:H1.objs.size=s.heap.objs.size+1:=by rw[← hH1,Heap.size_update,size_push']
 have kp1:∀ b o,s.heap.get? b=some o→H1.get? b=some o:=fun b o q=>by
  have hlt:b<s.heap.objs.size:=Heap.lt_size q
  rw[← hH1,Heap.get?_update_ne _ _ _ _ (Nat.ne_of_lt hlt),Heap.get?_push_ne _ _ _ (Nat.ne_of_lt hlt)]
  exact q
 generalize hH2:H1.push (seqObj "list" vs.toArray 0)=H2
 have sz2:H2.objs.size=s.heap.objs.size+2:=by rw[← hH2,Heap.size_push,sz1]
 have hoL:H2.get? H1.objs.size=some (seqObj "list" vs.toArray 0):=by rw[← hH2];exact Heap.get?_push_size _ rfl
 have kp2:∀ b o,s.heap.get? b=some o→H2.get? b=some o:=fun b o q=>by rw[← hH2];exact Heap.get?_push_of_some _ (kp1 b o q)
 refine wpAny_bind (wpAny_holding (wpAny_call_entry_kw slot_list_sort ⟨_,hoL,rfl⟩ entry_list_sort ?body (ksk_l1 _ _)))
 case body=>
 rw[ksk_t1]
 have s3:=Heap.SameBut.update H2 H1.objs.size (Obj.mapSeq fun J=>(#[]:Array Value))
 obtain⟨e1,ho1⟩:∃ e1,(H2.update H1.objs.size (Obj.mapSeq fun J=>(#[]:Array Value))).get? H1.objs.size=some (seqObj "list" #[] e1):=⟨_,get?_update_seq hoL fun J=>#[]⟩
 refine wpAny_bind (listItems_at hoL rfl ?_)
 refine wpAny_bind (listUpdate_at hoL rfl ?_ (by rw[size_toArray,sizeLine_eq];exact re h64 (by simp +arith only)) (Nat.zero_le _))
 refine wpAny_bind (seqEpoch_at ho1 rfl ?_)
 refine wpAny_bind (wpAny_newTuple ?_ (by show vs.length≤_;rw[sizeLine_eq];exact re h64 (by simp +arith only)))
 refine wpAny_bind (wpAny_newList ?_ (Nat.zero_le _))
 refine wpAny_holding ?_
 generalize hH3:H2.update H1.objs.size (Obj.mapSeq fun J=>(#[]:Array Value))=H3 at ho1 s3
 have sz3:H3.objs.size=s.heap.objs.size+2:=by rw[← hH3,Heap.size_update,sz2]
 show wpAny (model cx.prog cx.w) A.in1.in1 (ksk_rest H1.objs.size (.ref (bN cx f)) false vs.toArray e1 (.ref (H3.push (seqObj "tuple" vs.toArray 0)).objs.size)) _ _ {s with heap:=(H3.push (seqObj "tuple" vs.toArray 0)).push (seqObj "list" #[] 0)}
 generalize hH4:H3.push (seqObj "tuple" vs.toArray 0)=H4
 have sz4:H4.objs.size=s.heap.objs.size+3:=by rw[← hH4,Heap.size_push,sz3]
 have hfr:∀ b∈[H1.objs.size,H4.objs.size],s.heap.get? b=none:=fun b hb=>by
  refine Heap.get?_none_of_le ?_
  rcases mem_cons.mp hb with rfl | hb
  ·rw[sz1];exact Nat.le_succ _
  ·rw[mem_singleton.mp hb,sz4];exact Nat.le_add_right _ _
 have nk:(H4.push (seqObj "list" #[] 0)).get? H4.objs.size=some (seqObj "list" #[] 0):=Heap.get?_push_size _ rfl
 have na:(H4.push (seqObj "list" #[] 0)).get? H1.objs.size=some (seqObj "list" #[] e1):=Heap.get?_push_of_some _ (by rw[← hH4];exact Heap.get?_push_of_some _ ho1)
 have kp:∀ b o,s.heap.get? b=some o→(H4.push (seqObj "list" #[] 0)).get? b=some o:=fun b o q=>by
  refine Heap.get?_push_of_some _ ?_
  rw[← hH4]
  refine Heap.get?_push_of_some _ ((s3.2 b fun e=>?_).trans (kp2 b o q))
  have:=Heap.lt_size q
  rw[e,sz1] at this
  exact Nat.lt_asymm this (Nat.lt_succ_self _)
 have lv:∀ b∈[H1.objs.size,H4.objs.size],∃ o,(H4.push (seqObj "list" #[] 0)).get? b=some o:=fun b hb=>by
  rcases mem_cons.mp hb with rfl | hb
  ·exact⟨_,na⟩
  ·rw[mem_singleton.mp hb];exact⟨_,nk⟩
 have f1:=(st.kp kp s.toks).2
 have st1:=St.hide st hfr kp lv
 have nov:∀ b∈ov,b∉[H1.objs.size,H4.objs.size]:=fun b hb q=>by obtain⟨o,e⟩:=st.ovIn b hb;exact rh e (hfr b q) rfl
 refine eq_667 (s:={s with heap:=H4.push (seqObj "list" #[] 0)}) (asB:=as) (sB:=s) (hid:=[H1.objs.size,H4.objs.size]) PO hA hg mem_cons_self (mem_cons_of_mem _ mem_cons_self) (fun e=>by rw[sz1,sz4] at e;exact rK _ 3 1 (by decide) e) hfr nk na h2 h64 st1 f1 (r.mv (tC hfr kp)) hx fun σ' as' s' out g fB st' r' hp hpl=>⟨_,rfl,?_⟩
 refine wpAny_pure ⟨_,rfl,?_⟩
 obtain⟨zs,hz,rz⟩:=eq_661 hp r'
 refine t _ σ' _ as' s' (g zs hz) fB st'.weak ⟨H1.objs.size,out.toList,rfl,⟨fun hb=>nov _ hb mem_cons_self,st'.ovAs _ (mem_append_left _ mem_cons_self)⟩,by simpa using hpl,rz.mv (tD _)⟩
set_option tactic.hygienic true in
theorem eq_669 (t:St cx h₀ ov as σ s.heap){pv:PV}{v:Value}{xs:List D}(r:az cx s.heap (Fz ov as) as pv v)(e:ja σ pv=some (.lst xs)):∃ l vs,v=.ref l∧s.heap.PlainList l (List.toArray vs)∧DReps s.heap (Fz ov as) xs vs:=by
 unfold ja at e
 split at e
 ·cases e
  obtain⟨l,vs,rfl,_,hl,q⟩:=r
  exact⟨l,vs,rfl,hl,q⟩
 ·split at e
  ·rename_i ws hw
   obtain⟨ds,e1,e2⟩:=Option.map_eq_some_iff.mp e
   cases e2
   obtain⟨l,hl,rfl⟩:=r
   obtain⟨_,vs,il,q⟩:=t.cellOf hl hw
   exact⟨l.1,vs,rfl,il,eq_44 e1 q⟩
  ·cases e
 ·cases e
theorem eq_670 {o:Option D}{xs:List D}(h:o.bind dL=some xs):o=some (.lst xs):=by
 obtain⟨d,e,h⟩:=Option.bind_eq_some_iff.mp h
 rw[e,eq_263 h]
theorem eq_671 {x:T}{e:Expr}{n kn:Str}{np kp kkp pos:Pos}(PO:fH cx Φ d)(B:BltAt cx nm n (.builtin "sorted"))(hs:cw e=true)(hd:(kn==("__debug__" : Str))=false)(hg:ig (nm.lookup kn)=true)(he:nsIn cx.K mainGlobals kn=some (some (.ref (bN cx f))))(h:SE cx Φ d nm x e) :
  SE cx Φ d nm (.srt x f) (.Call (.Name n np) [e] [⟨some (Str.ofString "key"),.Name kn kp,kkp⟩] pos):=fun ρ σ K A env h₀ ov as s Q E hx H t=>by
 refine wpAny_Call_Name_kw (eq_80 H B.hd B.hg B.he B.hv B.hn ?_)
 have he1:backTo pos (starEach (e::[]) env)=(false,eval e env)::backTo pos (starEach [] env):=by rw[eq_81 hs];rfl
 have hp1:(backTo pos (starEach (e::[]) env)).any (·.1)=false:=eq_152 (eq_151 (by simp[bp,hs]))
 refine callWith_kw ?_ he1 hp1 rfl rfl
 refine eq_43 (cx:=cx) (Φ:=Φ) (d:=d) (nm:=nm) hs h eq_82 ρ σ (fun vs σ=>d9 vs fun va=>bQ ((ja σ va).bind dL) fun xs=>cond (Nat.ble 2 xs.length&&Nat.ble xs.length 63) (h9 (fun v σ K=>Φ f [v] σ K) xs σ fun ks σ=>∀ zs:List D,zs.Perm xs→K (.p (.lst zs)) σ) False) A env h₀ ov as s _ E hx H (fun pvs σ' vs as' s' k f' st r hl=>?_) pos
 ···obtain⟨va,rfl,k⟩:=sY k
    obtain⟨xs,hxs,k⟩:=rf k
    have hxs:=eq_670 hxs
    have hz:=(rt k).1;have k:=(rt k).2
    have z1:=(Bool.and_eq_true_iff.mp hz).1;have z2:=(Bool.and_eq_true_iff.mp hz).2
    have z1:=Nat.le_of_ble_eq_true z1
    have z2:=Nat.le_of_ble_eq_true z2
    obtain⟨u,rfl,ru⟩:=r.one
    obtain⟨l,us,rfl,pl,rs⟩:=eq_669 st ru hxs
    have hl':us.length=xs.length:=rs.len
    refine kws_cons (eq_139 (H.next f' st) hd hg he (kws_nil ?_))
    exact eq_668 PO H.a.ab2 H.gd pl (by lia) (by lia) st rs k (t.fw f')
end
end Mine
end
section
set_option genSizeOf false
set_option genCtorIdx false
set_option genInjectivity false
namespace Mine
open PySem PySem.W PySem.Calls PyProof.Rows PySem.Spec
end Mine
namespace Mine
open PySem PySem.W PySem.Calls PyProof.Rows PySem.Spec
section
variable {cx:Cx}{Φ:b9}{d:Nat}{nm:List (Str×NameKind)}
theorem eq_672 {n m:Str}(h:(n==m)=false):n≠m:=fun e=>by rw[e,beq_self_eq_true] at h;cases h
noncomputable def fI (n m:Str){v:Value}(hv:bootBuiltins m=some v)(hk:lB cx.K v=true):Dc (BltAt cx nm n v):=
 fh m n (P:=fun n=>BltAt cx nm n v) (gn (m == "__debug__") fun hd=>gn (m == "__name__") fun hn=>gy (ig (nm.lookup m)) fun h1=>gy (lA (nsIn cx.K mainGlobals m)) fun h2=>.yes ⟨hd,h1,h2,hv,eq_672 hn,hk⟩)
noncomputable def pP (o:Option NameKind):Dc (o=some .local∨o=some .cell):=.or (fh (some .local) o (P:=fun o=>o=some .local∨o=some .cell) (.yes (.inl rfl))) (fh (some .cell) o (P:=fun o=>o=some .local∨o=some .cell) (.yes (.inr rfl)))
noncomputable def jW (x:Nat)(e:Expr):Dc (dj nm x e):=da e (fun n p=>gy (bc x) fun h1=>fh (aJ x) n (P:=fun n=>dj nm x (.Name n p)) ((pP (nm.lookup (aJ x))).bi fun h=>.yes ⟨h1,rfl,h⟩))
noncomputable def kL:(xs:List Nat)→(es:List Expr)→Dc (cO nm xs es):=fun xs=>List.rec (motive:=fun xs=>∀ es,Dc (cO nm xs es)) (fun es=>aK es (.yes rfl)) (fun x xs ih es=>aL es (fun e r=>(jW x e).bi fun h=>(ih r).bi fun h'=>.yes ⟨e,r,rfl,h,h'⟩)) xs
noncomputable def ph (tg:Tg)(e:Expr):Dc (dG nm tg e):=Tg.casesOn tg (fun x=>(jW x e).bi fun h=>.yes h) fun xs=>eV e (fun es k p=>(kL xs es).bi fun h=>.yes ⟨es,k,p,rfl,h⟩)
def pj (e:Expr):Prop:=∀ env (x:Value),foldedSetIterable e env x=pure x
theorem eq_100 {e:Expr}(h:(e.ctorIdx != 7)=true):pj e:=by
 cases e<;>first | exact fun J J=>rfl | exact Bool.noConfusion h
def mV (cx:Cx)(Φ:b9) (d:Nat)(md:Option Expr)(nm:List (Str×NameKind))(x:T)(e:Expr):Prop:=(md=none→ed cx Φ d nm x e)∧∀ te,md=some te→jr cx Φ d nm te x e
theorem s7 {md:Option Expr}{x:T}{e:Expr}(h:ed cx Φ d nm x e):mV cx Φ d md nm x e:=⟨fun J=>h,fun J J=>eq_628 h.1⟩
theorem rP {md:Option Expr}{x:T}{e:Expr}(hp:f9 e=true)(h:SE cx Φ d nm x e):mV cx Φ d md nm x e:=s7 ⟨h,eq_478 hp h⟩
theorem mV.e {x:T}{e:Expr}(h:mV cx Φ d none nm x e):SE cx Φ d nm x e:=(h.1 rfl).1
theorem mV.m {x:T}{e:Expr}(h:mV cx Φ d none nm x e):ed cx Φ d nm x e:=h.1 rfl
theorem mV.it {te:Expr}{x:T}{e:Expr}(h:mV cx Φ d (some te) nm x e):jr cx Φ d nm te x e:=h.2 te rfl
theorem eq_673 {e:Expr}:ed cx Φ d nm .rai e:=⟨fun J J J J J J J J J J J (h:False) J J=>h.elim,fun J J J J J J J J J J J (h:False) J J=>h.elim⟩
structure Ctx (cx:Cx)(Φ:b9) (d:Nat):Prop where
 P:fH cx Φ d
 T:TabOk cx
 lt:∀ c x f,cx.P.tab.meth c x=some f→f<1000
noncomputable def pQ (x:D)(e:Expr):Dc (SE cx Φ d nm (.con x) e∧f9 e=true):=by
 cases x with
 | none=>apply d8 e (fun c k p=>?_);apply jR c (?_);exact .yes ⟨eq_467,rfl⟩
 | bool b=>apply d8 e (fun c k p=>?_);apply l9 c (fun b'=>?_);apply fh b b' ?_;exact .yes ⟨eq_468,rfl⟩
 | int i=>
  apply ku e (con:=fun c k p=>?_) (un:=fun o a p=>?_)
  ·apply fh UnaryOp.USub o ?_;apply d8 a (fun c k p'=>?_);apply lu c (fun i'=>?_);exact gy (decide (-i'=i)) fun h=>.yes (of_decide_eq_true h▸⟨eq_470,rfl⟩)
  ·apply lu c (fun i'=>?_);apply fh i i' ?_;exact .yes ⟨eq_469,rfl⟩
 | str n=>apply d8 e (fun c k p=>?_);apply m3 c (fun s=>?_);refine gy (bc n) fun h=>?_;apply fh (aJ n) s ?_;exact .yes ⟨eq_471 h,rfl⟩
 | _=>exact .no
noncomputable def pR (l:Bool)(rr:Expr):Dc ((l=true∧∃ p,rr=.List [] p)∨(l=false∧∃ k p,rr=.Tuple [] k p)):=by
 cases l with
 | true=>apply lw rr (fun a p=>?_);apply aK a (?_);exact .yes (.inl ⟨rfl,_,rfl⟩)
 | false=>apply eV rr (fun a k p=>?_);apply aK a (?_);exact .yes (.inr ⟨rfl,_,_,rfl⟩)
def oa (cx:Cx)(nm:List (Str×NameKind)) (f:Nat)(n:Str):Prop:=(n==("__debug__" : Str))=false∧ig (nm.lookup n)=true∧nsIn cx.K mainGlobals n=some (some (.ref (bN cx f)))
noncomputable def nU (f:Nat)(n:Str):Dc (oa cx nm f n):=gn (n == "__debug__") fun h1=>gy (ig (nm.lookup n)) fun h2=>gy (oV (bN cx f) (nsIn cx.K mainGlobals n)) fun h3=>.yes ⟨h1,h2,eq_465 h3⟩
noncomputable def pS (b:Blt)(m:Bool)(x:T)(n:Str)(np pos:Pos)(es:List Expr)(hs:bp es=true)(h:ly cx Φ d nm x es):Dc (SE cx Φ d nm (.blt b m x) (.Call (.Name n np) es [] pos)):=by
 cases b with
 | len=>exact(fI n "len" rfl rfl).bi fun z=>.yes (sp z hs h eq_549)
 | list=>exact(fI n "list" rfl rfl).bi fun z=>.yes (sp z hs h eq_550)
 | tuple=>exact(fI n "tuple" rfl rfl).bi fun z=>.yes (sp z hs h eq_552)
 | dictOf=>exact(fI n "dict" rfl rfl).bi fun z=>.yes (sp z hs h eq_571)
 | dictCopy=>exact(fI n "dict" rfl rfl).bi fun z=>.yes (sp z hs h eq_572)
 | max=>exact(fI n "max" rfl rfl).bi fun z=>.yes (sp z hs h eq_561)
 | min=>exact(fI n "min" rfl rfl).bi fun z=>.yes (sp z hs h eq_558)
 | sum=>exact(fI n "sum" rfl rfl).bi fun z=>.yes (sp z hs h eq_563)
 | str=>exact(fI n "str" rfl rfl).bi fun z=>.yes (sp z hs h eq_557)
 | int=>exact(fI n "int" rfl rfl).bi fun z=>.yes (sp z hs h eq_553)
 | keys=>exact(fI n "sorted" rfl rfl).bi fun z=>.yes (sp z hs h eq_578)
noncomputable def pT (b:Bme){y x:T}{o:Expr}(n:Str){apos pos:Pos}{es:List Expr}(hb:du o=true)(hs:bp es=true)(hn:es.length<30)(hl:(apos.endLine==pos.line)=true)(ho:SE cx Φ d nm y o)(h:ly cx Φ d nm x es) :
  Dc (SE cx Φ d nm (.bme b y x) (.Call (.Attribute o n apos) es [] pos)):=by
 cases b with
 | pop=>apply fh (Str.ofString "pop") n;exact(.yes (eq_21 ⟨F.plainAttrs_list,F.slot_list_pop,F.type_list_pop⟩ eq_582 hb hs hn hl ho h))
 | append=>apply fh (Str.ofString "append") n;exact(.yes (eq_21 ⟨F.plainAttrs_list,F.slot_list_append,F.type_list_append⟩ eq_583 hb hs hn hl ho h))
 | extend=>apply fh (Str.ofString "extend") n;exact(.yes (eq_21 ⟨F.plainAttrs_list,F.slot_list_extend,F.type_list_extend⟩ eq_584 hb hs hn hl ho h))
 | get=>apply fh (Str.ofString "get") n;exact(.yes (eq_21 ⟨F.plainAttrs_dict,F.slot_dict_get,F.type_dict_get⟩ eq_589 hb hs hn hl ho h))
 | split=>apply fh (Str.ofString "split") n;exact(.yes (eq_21 ⟨F.plainAttrs_str,F.slot_str_split,F.type_str_split⟩ eq_590 hb hs hn hl ho h))
 | join=>apply fh (Str.ofString "join") n;exact(.yes (eq_21 ⟨F.plainAttrs_str,F.slot_str_join,F.type_str_join⟩ eq_592 hb hs hn hl ho h))
noncomputable def qv {P:Option Expr→Prop}(st:Option Expr)(k:∀ a p q,Dc (P (some (.UnaryOp .USub (.Constant (.int 1) a p) q)))):Dc (P st):=by
 apply cC st (fun e=>?_);apply ma e (fun o e q=>?_);apply fh UnaryOp.USub o ?_;apply d8 e (fun c a p=>?_);apply fh (Const.int 1) c ?_;exact k a p q
noncomputable def pU (C:Ctx cx Φ d)(m:Bool)(k:Sl){y i:T}{e1:Expr}(lo up st:Option Expr)(p pos:Pos)(h1:SE cx Φ d nm y e1)(ic:∀ x,Dc (i=.con x))(h2:∀ e2,Dc (SE cx Φ d nm i e2)):Dc (SE cx Φ d nm (.slc m k y i) (.Subscript e1 (.Slice lo up st p) pos)):=by
 cases k with
 | upto=>apply dc lo (?_);apply cC up (fun e=>?_);apply dc st (?_);exact(h2 e).bi fun h=>.yes (eq_536 h1 h)
 | from_=>apply cC lo (fun e=>?_);apply dc up (?_);apply dc st (?_);exact(h2 e).bi fun h=>.yes (eq_537 h1 h)
 | rev=>apply dc lo (?_);apply dc up (?_);apply qv st fun a p q=>?_;exact(ic .none).bi fun h=>.yes (by subst h;exact eq_538 h1)
 | revTo=>apply dc lo (?_);apply cC up (fun e=>?_);apply d8 e (fun c k p=>?_);apply fh (Const.int 0) c ?_;apply qv st fun a p q=>?_;exact(ic (.int 0)).bi fun h=>.yes (by subst h;exact eq_539 h1)
theorem eq_674 {e:Expr}{n:Str}{pos:Pos}(h:du e=true):∀ env,eval (e.Attribute n pos) env=(do
     let o ← eval e env
     standAt pos.atName
     let r ← holding [o] (getAttr o n true)
     letTemporaryGo e o r
     pure r):=by
 intro env
 have:=eq_153 (env:=env) (name:=n) h
 show (do let o ← attributeBase e n env (eval e env);standAt pos.atName;let r ← holding [o] (getAttr o n true);letTemporaryGo e o r;pure r)=_
 rw[this]
end
section
variable (cx:Cx)(Φ:b9) (d:Nat)
noncomputable abbrev gz:=List (Str×NameKind)
structure Chk (x:T) where
 E:∀ (md:Option Expr)(nm:gz)(e:Expr),Dc (mV cx Φ d md nm x e):=fun J J J=>.no
 L:∀ (nm:gz)(es:List Expr),Dc (ly cx Φ d nm x es):=fun J J=>.no
 B:∀ (o:Bool)(nm:gz)(es:List Expr),Dc (oy cx Φ d nm o x es):=fun J J J=>.no
 C:∀ (o:Bool)(nm:gz)(y:T)(e:Expr)(es:List Expr),ed cx Φ d nm y e→Dc (oy cx Φ d nm o (.cons y x) (e::es)):=fun J J J J J J=>.no
 R:∀ (nm:gz)(ks:List (Option Expr))(vs:List Expr),Dc (oA cx Φ d nm x ks vs):=fun J J J=>.no
 V:∀ (nm:gz)(y:T)(k:Expr)(ks:List (Option Expr))(vs:List Expr),SE cx Φ d nm y k→Dc (oA cx Φ d nm (.cons y x) (some k::ks) vs):=fun J J J J J J=>.no
 n:Dc (x=.nil):=.no
 c:∀ k,Dc (x=.con k):=fun J=>.no
 A:∀ (nm:gz) (y:Nat)(n:Str)(p pos:Pos)(e:Expr),dj nm y (.Name n p)→Dc ((∀ env:Env,env.scope.names=nm→env.scope.kind=.function→swapsWith e (some (.Name n p)) pos.line env=pure true)→S1 cx Φ d nm (.asg y x) (.Assign [.Name n p] e pos)):=fun J J J J J J J=>.no
 S:∀ (nm:gz)(st:Stmt),Dc (S1 cx Φ d nm x st):=fun J J=>.no
 K:∀ (nm:gz)(st:List Stmt),Dc (SS cx Φ d nm x st):=fun J J=>.no
end
end Mine
end
section
set_option backward.match.sparseCases true
namespace Mine
open PySem PySem.W PySem.Calls PyProof.Rows PySem.Spec
theorem eq_338 {env:Env}(h:env.scope.kind=.function):env.blockKind=.function:=by
 unfold Env.blockKind
 rw[h];rfl
theorem eq_675 {env:Env}(h:env.scope.kind=.function):interactive env=false:=by
 unfold interactive
 rw[h];rfl
noncomputable def lC (e:Expr):Bool:=e.ctorIdx != 8&&(e.ctorIdx != 9&&e.ctorIdx != 10)
theorem eq_676 {e:Expr}(h:lC e=true)(n:Str)(p:Pos) (line:Nat)(env:Env):swapsWith e (some (.Name n p)) line env=pure false:=by
 cases e<;>first | rfl | exact Bool.noConfusion h
theorem eq_677 {e:Expr}(h:lC e=true) (line:Nat)(env:Env):swapsWith e none line env=pure false:=by
 cases e<;>first | rfl | exact Bool.noConfusion h
noncomputable def pn (nm:gz)(n:Str) (l:Nat)(s:Scope) (m:Nat):Bool:=nm.lookup n==some .local&&(l==m&&!(s.names.any fun x=>x.1==n&&(x.2==.local||x.2==.cell)))
theorem eq_339 {nm:gz}{n:Str}{p:Pos}{a:Expr}{g:List Comprehension}{s:Scope}{pos:Pos}{line:Nat}{env:Env}(hn:env.scope.names=nm)(hk:env.scope.kind=.function):swapsWith (.ListComp a g s pos) (some (.Name n p)) line env=pure (pn nm n p.line s pos.line):=by
 show (pure (env.blockKind==.function&&env.kindOf n==some .local&&p.line==pos.line&&!(s.names.any fun x=>x.1==n&&(x.2==.local||x.2==.cell))):Sem Bool)=_
 rw[eq_338 hk]
 unfold Env.kindOf pn
 rw[hn,Bool.and_assoc,Bool.and_assoc]
 rfl
theorem eq_678 {e eo:Expr}{n:Str}{p:Pos}{line:Nat}(env:Env):swapsWith e (some (.Attribute eo n p)) line env=pure false:=by
 cases e<;>rfl
theorem eq_679 {e eo ei:Expr}{p:Pos}{line:Nat}(env:Env):swapsWith e (some (.Subscript eo ei p)) line env=pure false:=by
 cases e<;>rfl
theorem eq_177 {e:Expr}{es:List Expr}{k:Nat}{p:Pos}{line:Nat}(env:Env):swapsWithSole [.Tuple es k p] e line env=pure false:=by
 cases e<;>rfl
noncomputable def js (e:Expr):Bool:=match e with
 | .Starred ..=>true
 | _=>false
noncomputable def eW (nm:gz) (line:Nat)(es:List Expr):List Str:=es.filterMap fun
  | .Name id pos=>if nm.lookup id==some .local&&pos.line==line then some id else none
  | _=>none
noncomputable def qO (b1 b2 b3 b4 b5:Bool)(ns:List Str):Sem (Option (List Str)):=
 if b1=true then pure none else if b2=true then pure none else if b3=true then pure none else if b4=true then pure none else if b5=true then unsupported "assign.tuple-of-constant-expressions:order-of-the-stores" else pure (some ns)
noncomputable def pr (b1 b2 b3 b4 b5:Bool)(ns:List Str):Option (Option (List Str)):=bif b1||(b2||(b3||b4)) then some none else bif b5 then none else some (some ns)
theorem eq_680 {b1 b2 b3 b4 b5:Bool}{ns:List Str}{r:Option (List Str)}(h:pr b1 b2 b3 b4 b5 ns=some r):qO b1 b2 b3 b4 b5 ns=pure r:=by
 cases b1
 ·cases b2
  ·cases b3
   ·cases b4
    ·cases b5
     ·cases h;rfl
     ·cases h
    ·cases h;rfl
   ·cases h;rfl
  ·cases h;rfl
 ·cases h;rfl
noncomputable def oC (es:List Expr):Nat:=(es.head?.map (·.pos.line)).getD 0
noncomputable def pV (es:List Expr)(ns:List Str):Bool:=ns.length != es.length||ns.eraseDups.length != ns.length
def qw (nm:gz)(es:List Expr) (k:Nat)(p:Pos)(v:Expr)(r:Option (List Str)):Prop:=∀ env:Env,env.scope.names=nm→env.scope.kind=.function→swappedStores [.Tuple es k p] v env=pure r
theorem eq_681 {nm:gz}{es:List Expr}{k:Nat}{p:Pos}{v:Expr}(h:(v.ctorIdx != 25)=true):qw nm es k p v none:=by
 cases v<;>first | exact fun J J J=>rfl | exact Bool.noConfusion h
theorem eq_340 {nm:gz}{es vs:List Expr}{k k':Nat}{p p':Pos}{r:Option (List Str)}(h:pr (!(es.length==2||es.length==3)||vs.length != es.length||false) (vs.any js) (pV es (eW nm (oC es) es)) (vs.all (foldedForSure 8)) (vs.all (constantsAlone 8)) (eW nm (oC es) es)=some r):qw nm es k p (.Tuple vs k' p') r:=fun env hn hk=>by
 have e1:(env.blockKind != .function)=false:=by rw[eq_338 hk];rfl
 refine Eq.trans ?_ (eq_680 h)
 subst hn
 rw[← e1]
 rfl
end Mine
end
section
set_option genSizeOf false
set_option genCtorIdx false
set_option genInjectivity false
namespace Mine
open PySem PySem.W PySem.Calls PyProof.Rows PySem.Spec
section
variable {cx:Cx}{Φ:b9}{d:Nat}
structure C1 (cx:Cx)(Φ:b9) (d:Nat)(nm:gz)(elt:T)(tg:Tg)(it cnd:T)(ee te ie:Expr)(ifs:List Expr)(sc:Scope):Prop where
 s:cP nm (br tg) sc=true
 t:dG sc.names tg te
 n:pj ie
 i:jr cx Φ d nm te it ie
 e:SE cx Φ d (aV nm sc.names) elt ee
 c:lU cx Φ d (aV nm sc.names) cnd ifs
noncomputable def qx {elt it cnd:T}(nm:gz)(tg:Tg)(ke:Chk cx Φ d elt)(ki:Chk cx Φ d it)(kc:Chk cx Φ d cnd){P:Expr→Prop}(e:Expr)(k:∀ ee te ie ifs sc pos,C1 cx Φ d nm elt tg it cnd ee te ie ifs sc→Dc (P (.ListComp ee [⟨te,ie,ifs,0⟩] sc pos))):Dc (P e):=by
 apply kC e (fun ee gs sc pos=>?_)
 apply aL gs (fun g gs=>?_)
 apply aK gs (?_)
 obtain⟨te,ie,ifs,a⟩:=g
 apply fh (0:Int) a
 refine gy (cP nm (br tg) sc) fun h1=>(ph (nm:=sc.names) tg te).bi fun h2=>gy (ie.ctorIdx != 7) fun h3=>(ki.E (some te) nm ie).bi fun h4=>(ke.E none (aV nm sc.names) ee).bi fun h5=>?_
 refine Dc.bi (P:=lU cx Φ d (aV nm sc.names) cnd ifs) ?_ fun h6=>k ee te ie ifs sc pos ⟨h1,h2,eq_100 h3,h4.it,h5.e,h6⟩
 apply pE ifs (nil:=?_) (cons:=fun c r=>?_)
 ·exact(kc.c (.bool true)).bi fun h=>.yes (.inl ⟨rfl,h⟩)
 ·apply aK r (?_)
  exact(kc.E none (aV nm sc.names) c).bi fun h=>.yes (.inr ⟨c,rfl,h.m.2⟩)
structure C2 (cx:Cx)(Φ:b9) (d:Nat)(nm:gz)(elt:T)(t1:Tg)(i1:T)(t2:Tg)(i2:T)(ee te1 ie1 te2 ie2:Expr)(sc:Scope):Prop where
 s:cP nm (br t1++br t2) sc=true
 t:dG sc.names t1 te1
 t':dG sc.names t2 te2
 n:pj ie1
 n':pj ie2
 i:jr cx Φ d nm te1 i1 ie1
 i':jr cx Φ d (aV nm sc.names) te2 i2 ie2
 e:SE cx Φ d (aV nm sc.names) elt ee
noncomputable def qy {elt i1 i2:T}(nm:gz)(t1 t2:Tg)(ke:Chk cx Φ d elt)(k1:Chk cx Φ d i1)(k2:Chk cx Φ d i2){P:Expr→Prop}(e:Expr)(k:∀ ee te1 ie1 te2 ie2 sc pos,C2 cx Φ d nm elt t1 i1 t2 i2 ee te1 ie1 te2 ie2 sc→Dc (P (.ListComp ee [⟨te1,ie1,[],0⟩,⟨te2,ie2,[],0⟩] sc pos))):Dc (P e):=by
 apply kC e (fun ee gs sc pos=>?_)
 apply aL gs (fun g gs=>?_)
 apply aL gs (fun g' gs=>?_)
 apply aK gs (?_)
 obtain⟨te,ie,ifs,a⟩:=g
 obtain⟨te',ie',ifs',a'⟩:=g'
 apply fh (0:Int) a
 apply fh (0:Int) a'
 apply aK ifs (?_)
 apply aK ifs' (?_)
 exact gy (cP nm (br t1++br t2) sc) fun h1=>(ph (nm:=sc.names) t1 te).bi fun h2=>(ph (nm:=sc.names) t2 te').bi fun h2'=>gy (ie.ctorIdx != 7) fun h3=>gy (ie'.ctorIdx != 7) fun h3'=>(k1.E (some te) nm ie).bi fun h4=>(k2.E (some te') (aV nm sc.names) ie').bi fun h4'=>
  (ke.E none (aV nm sc.names) ee).bi fun h5=>k ee te ie te' ie' sc pos ⟨h1,h2,h2',eq_100 h3,eq_100 h3',h4.it,h4'.it,h5.e⟩
noncomputable def nH {P:Expr→Prop}(e:Expr)(k:∀ n np es pos,bp es=true→Dc (P (.Call (.Name n np) es [] pos))):Dc (P e):=by
 apply jk e (fun fe es ks pos=>?_)
 apply aK ks (?_)
 apply da fe (fun n np=>?_)
 exact gy (bp es) fun h=>k n np es pos h
noncomputable def oW {nm:gz}{a as:T}(ka:Chk cx Φ d a)(ks:Chk cx Φ d as){P:Expr→Prop}(e:Expr)(k:∀ o n ap es pos,du o=true→bp es=true→es.length<30→(ap.endLine==pos.line)=true→SE cx Φ d nm a o→ly cx Φ d nm as es→Dc (P (.Call (.Attribute o n ap) es [] pos))):Dc (P e):=by
 apply jk e (fun fe es kw pos=>?_)
 apply aK kw (?_)
 apply jj fe (fun o n ap=>?_)
 exact gy (du o) fun h1=>gy (bp es) fun h2=>gy (Nat.blt es.length 30) fun h3=>gy (ap.endLine==pos.line) fun h4=>(ka.E none nm o).bi fun h5=>(ks.L nm es).bi fun h6=>k o n ap es pos h1 h2 (Nat.le_of_ble_eq_true h3) h4 h5.e h6
noncomputable def ob {P:Expr→Prop}(e:Expr)(k:∀ l op r pos,Dc (P (.Compare l [op] [r] pos))):Dc (P e):=by
 apply m6 e (fun l os rs pos=>?_)
 apply aL os (fun o os=>?_)
 apply aK os (?_)
 apply aL rs (fun r rs=>?_)
 apply aK rs (?_)
 exact k l o r pos
noncomputable def oX {α:Type}{P:Prop}(es:List α)(k:es.length≤1000→Dc P):Dc P:=gy (Nat.ble es.length 1000) fun h=>k (Nat.le_of_ble_eq_true h)
noncomputable def pW {y:T}(ky:Chk cx Φ d y)(nm:gz) (x:Nat)(st:Stmt):Dc (S1 cx Φ d nm (.asg x y) st):=by
 apply gV st (fun ts e pos=>?_)
 apply aL ts (fun t r=>?_)
 apply aK r (?_)
 apply da t (fun n p=>?_)
 refine(jW (nm:=nm) x (.Name n p)).bi fun hn=>Dc.or (gy (lC e) fun h=>(ky.E none nm e).bi fun hy=>.yes (eq_311 hn.1 hn.2.1 hn.2.2 (fun env J J=>eq_676 h n p pos.line env) hy.e)) ?_
 apply kC e (fun a g s q=>?_)
 refine Dc.or (gn (pn nm n p.line s q.line) fun h=>(ky.E none nm (.ListComp a g s q)).bi fun hy=>.yes (eq_311 hn.1 hn.2.1 hn.2.2 (fun env h1 h2=>by rw[eq_339 h1 h2,h]) hy.e)) ?_
 exact gy (pn nm n p.line s q.line) fun h=>(ky.A nm x n p pos (.ListComp a g s q) hn).bi fun k=>.yes (k fun env h1 h2=>by rw[eq_339 h1 h2,h])
noncomputable def pX {y:T}(ky:Chk cx Φ d y)(nm:gz)(xs:List Nat)(st:Stmt):Dc (S1 cx Φ d nm (.unp xs y) st):=by
 apply gV st (fun ts e pos=>?_)
 apply aL ts (fun t r=>?_)
 apply aK r (?_)
 apply eV t (fun es k p=>?_)
 refine Dc.or ((ky.E none nm e).bi fun hy=>(kL (nm:=nm) xs es).bi fun hn=>gy (e.ctorIdx != 25) fun h=>.yes (eq_317 hn eq_177 (eq_681 h) hy.e)) ?_
 apply eV e (fun vs k' p'=>?_)
 refine(ky.E none nm (.Tuple vs k' p')).bi fun hy=>Dc.or ((kL (nm:=nm) xs es).bi fun hn=>gy (decide (pr (!(es.length==2||es.length==3)||vs.length != es.length||false) (vs.any js) (pV es (eW nm (oC es) es)) (vs.all (foldedForSure 8)) (vs.all (constantsAlone 8)) (eW nm (oC es) es)=some none)) fun h=>.yes (eq_317 hn eq_177 (eq_340 (of_decide_eq_true h)) hy.e)) ?_
 apply aL es (fun e1 es=>?_)
 apply aL es (fun e2 es=>?_)
 apply aK es (?_)
 apply aL xs (fun x1 xs=>?_)
 apply aL xs (fun x2 xs=>?_)
 apply aK xs (?_)
 apply da e1 (fun n1 p1=>?_)
 apply da e2 (fun n2 p2=>?_)
 exact(jW (nm:=nm) x1 (.Name n1 p1)).bi fun a1=>(jW (nm:=nm) x2 (.Name n2 p2)).bi fun a2=>gn (x1==x2) fun hx=>gy (decide (pr (!([Expr.Name n1 p1,.Name n2 p2].length==2||[Expr.Name n1 p1,.Name n2 p2].length==3)||vs.length != [Expr.Name n1 p1,.Name n2 p2].length||false) (vs.any js) (pV [.Name n1 p1,.Name n2 p2] (eW nm (oC [.Name n1 p1,.Name n2 p2]) [.Name n1 p1,.Name n2 p2])) (vs.all (foldedForSure 8)) (vs.all (constantsAlone 8)) (eW nm (oC [.Name n1 p1,.Name n2 p2]) [.Name n1 p1,.Name n2 p2])=some (some [n1,n2]))) fun h=>
  .yes (eq_625 a1 a2 hx eq_177 (eq_340 (of_decide_eq_true h)) hy.e)
noncomputable def qP (k k':D):Dc (T.con k=.con k'):=by
 cases k with
 | bool b=>cases k' with
  | bool b'=>apply fh b b';exact .yes rfl
  | _=>exact .no
 | none=>cases k' with
  | none=>exact .yes rfl
  | _=>exact .no
 | int i=>cases k' with
  | int j=>apply fh i j;exact .yes rfl
  | _=>exact .no
 | _=>exact .no
noncomputable def iP {x:T}(k:∀ (md:Option Expr)(nm:gz)(e:Expr),Dc (mV cx Φ d md nm x e)):Chk cx Φ d x:={E:=k}
noncomputable def nI {x:T}(k:∀ (nm:gz)(st:Stmt),Dc (S1 cx Φ d nm x st)):Chk cx Φ d x:={S:=k}
noncomputable def qQ (C:Ctx cx Φ d)(x:T):Chk cx Φ d x:=by
 induction x with
 | nil=>exact {L:=fun nm es=>aK es (.yes eq_82),R:=fun nm ks vs=>by apply aK ks (?_);apply aK vs (?_);exact .yes eq_543,n:=.yes rfl,C:=fun o nm y e es h=>by apply aK es (?_);exact .yes (eq_498 h),K:=fun nm es=>aK es (.yes eq_615)}
 | cons x y kx ky=>
  exact {
   L:=fun nm es=>by
    apply aL es (fun e r=>?_)
    exact gy (cw e) fun h=>(kx.E none nm e).bi fun h1=>(ky.L nm r).bi fun h2=>.yes (eq_43 h h1.e h2)
   B:=fun o nm es=>by
    apply aL es (fun e r=>?_)
    exact(kx.E none nm e).bi fun h=>ky.C o nm x e r h.m
   C:=fun o nm z e es h=>by
    apply aL es (fun e' r=>?_)
    exact(kx.E none nm e').bi fun h1=>(ky.C o nm x e' r h1.m).bi fun h2=>.yes (eq_499 h h2)
   R:=fun nm ks vs=>by
    apply aL ks (fun k ks=>?_)
    apply cC k (fun k=>?_)
    exact(kx.E none nm k).bi fun h=>ky.V nm x k ks vs h.e
   V:=fun nm z k ks vs h=>by
    apply aL vs (fun v vs=>?_)
    exact(kx.E none nm v).bi fun h1=>(ky.R nm ks vs).bi fun h2=>.yes (eq_544 h h1.e h2)
   K:=fun nm es=>by
    apply aL es (fun e r=>?_)
    exact(kx.S nm e).bi fun h1=>(ky.K nm r).bi fun h2=>.yes (eq_616 h1 h2)}
 | con k=>exact {E:=fun md nm e=>(pQ (nm:=nm) k e).bi fun h=>.yes (rP h.2 h.1),c:=qP k}
 | var x=>exact iP (fun md nm e=>by
    apply da e (fun n p=>?_)
    exact gy (f8 x n) fun h1=>gy (n7 (nm.lookup n)) fun h2=>.yes (rP rfl (eq_472 h1 h2)))
 | glo x c=>exact iP (fun md nm e=>by
    apply da e (fun n p=>?_)
    exact gy (f8 x n) fun h1=>gy (ig (nm.lookup n)) fun h2=>(pN cx.K c (nsIn cx.K mainGlobals n)).bi fun h3=>.yes (rP rfl (eq_473 h1 h2 h3)))
 | tup x k=>exact iP (fun md nm e=>by
    apply eV e (fun es J p=>?_)
    exact oX es fun h=>(k.L nm es).bi fun h1=>.yes (rP rfl (eq_479 h h1)))
 | lis m x k=>exact iP (fun md nm e=>by
    apply lw e (fun es p=>?_)
    exact oX es fun h=>(k.L nm es).bi fun h1=>.yes (rP rfl (eq_480 h h1)))
 | dic m x k=>exact iP (fun md nm e=>by
    apply m7 e (fun ks vs p=>?_)
    refine Dc.or (gy (ks.all (·.isSome)) fun h1=>gy (decide (ks.length=vs.length)) fun h2=>gn ks.isEmpty fun h3=>gy (Nat.ble ks.length 15) fun h4=>(k.R nm ks vs).bi fun h5=>.yes (rP rfl (eq_546 h1 (of_decide_eq_true h2) (fun e=>by rw[e] at h3;exact Bool.noConfusion h3) (Nat.le_of_ble_eq_true h4) h5))) ?_
    apply aK ks (?_)
    apply aK vs (?_)
    exact k.n.bi fun hx=>gy m fun hm=>.yes (by subst hx;subst hm;exact rP rfl eq_542))
 | cmp op r x y kx ky=>exact iP (fun md nm e=>by
    apply ob e fun l o r pos=>?_
    apply fh op o
    exact gn (behindInMarks op r) fun h=>(kx.E none nm l).bi fun h1=>(ky.E none nm r).bi fun h2=>.yes (s7 (eq_486 h h1.e h2.e)))
 | emp neg l x k=>exact iP (fun md nm e=>by
    apply ob e fun a o r pos=>?_
    apply fh (if neg then CmpOp.NotEq else CmpOp.Eq) o
    exact(pR l r).bi fun h=>(k.E none nm a).bi fun h1=>.yes (s7 (eq_492 h1.e h)))
 | isn neg x k=>exact iP (fun md nm e=>by
    apply ob e fun a o r pos=>?_
    apply fh (if neg then CmpOp.IsNot else CmpOp.Is) o
    apply d8 r (fun c q p=>?_)
    apply jR c (?_)
    exact(k.E none nm a).bi fun h1=>.yes (s7 (eq_487 h1.e)))
 | bl o x k=>exact iP (fun md nm e=>by
    apply m5 e (fun o' es p=>?_)
    apply fh (ga o) o'
    exact(k.B o nm es).bi fun h=>.yes (s7 (eq_500 h)))
 | not x k=>exact iP (fun md nm e=>by
    apply ma e (fun o a p=>?_)
    apply fh UnaryOp.Not o
    exact(k.E none nm a).bi fun h=>.yes (s7 (eq_494 h.m)))
 | bin op m x y kx ky=>exact iP (fun md nm e=>by
    apply m4 e (fun a o b p=>?_)
    apply fh op o
    exact(kx.E none nm a).bi fun h1=>(ky.E none nm b).bi fun h2=>.yes (rP rfl (eq_520 h1.e h2.e)))
 | ife x y z kx ky kz=>exact iP (fun md nm e=>by
    apply m8 e (fun a b c p=>?_)
    exact(kx.E none nm a).bi fun h1=>(ky.E none nm b).bi fun h2=>(kz.E none nm c).bi fun h3=>.yes (s7 (eq_495 h1.m h2.m h3.m)))
 | att x n k=>exact iP (fun md nm e=>by
    apply jj e (fun a n' p=>?_)
    exact gy (decide (aJ n=n')) fun h=>gy (du a) fun h'=>(k.E none nm a).bi fun h1=>.yes (rP rfl (eq_508 C.T (of_decide_eq_true h) h1.e (eq_674 h'))))
 | sub x y kx ky=>exact iP (fun md nm e=>by
    apply jl e (fun a b p=>?_)
    exact gy (fG b) fun h=>(kx.E none nm a).bi fun h1=>(ky.E none nm b).bi fun h2=>.yes (rP rfl (eq_503 h h1.e h2.e)))
 | slc m s x y kx ky=>exact iP (fun md nm e=>by
    apply jl e (fun a b p=>?_)
    apply m9 b (fun lo up st q=>?_)
    exact(kx.E none nm a).bi fun h1=>(pU C m s lo up st q p h1.e ky.c fun e2=>(ky.E none nm e2).bi fun h=>.yes h.e).bi fun h=>.yes (rP rfl h))
 | call f x k=>exact iP (fun md nm e=>by
    apply nH e;intro n np es pos hs
    exact(nU (cx:=cx) (nm:=nm) f n).bi fun h=>gy (keepIn cx.K (.ref (bN cx f))) fun h'=>(k.L nm es).bi fun h1=>.yes (rP rfl (eq_612 C.P h.1 h.2.1 h.2.2 h' hs h1)))
 | met x n y kx ky=>exact iP (fun md nm e=>by
    apply oW (nm:=nm) kx ky e fun o n' ap es pos h1 h2 h3 h4 h5 h6=>?_
    exact gy (decide (aJ n=n')) fun h=>.yes (rP rfl (eq_613 C.T C.P C.lt (of_decide_eq_true h) h1 h2 h3 h4 h5 h6)))
 | blt b m x k=>exact iP (fun md nm e=>by
    apply nH e;intro n np es pos hs
    exact(k.L nm es).bi fun h1=>(pS b m x n np pos es hs h1).bi fun h=>.yes (rP rfl h))
 | bme b x y kx ky=>exact iP (fun md nm e=>by
    apply oW (nm:=nm) kx ky e fun o n' ap es pos h1 h2 h3 h4 h5 h6=>?_
    exact(pT b n' h1 h2 h3 h4 h5 h6).bi fun h=>.yes (rP rfl h))
 | srt x f k=>exact iP (fun md nm e=>by
    apply jk e (fun fe es ks pos=>?_)
    apply da fe (fun n np=>?_)
    apply aL es (fun e es=>?_)
    apply aK es (?_)
    apply aL ks (fun kw ks=>?_)
    apply aK ks (?_)
    obtain⟨a,v,q⟩:=kw
    apply cC a (fun a=>?_)
    apply fh (Str.ofString "key") a
    apply da v (fun kn kp=>?_)
    exact(fI (cx:=cx) (nm:=nm) n "sorted" rfl rfl).bi fun h1=>gy (cw e) fun h2=>(nU (cx:=cx) (nm:=nm) f kn).bi fun h3=>(k.E none nm e).bi fun h4=>.yes (rP rfl (eq_671 C.P h1 h2 h3.1 h3.2.1 h3.2.2 h4.e)))
 | rng x k=>exact iP (fun md nm e=>by
    apply nH e;intro n np es pos hs
    apply aL es (fun e es=>?_)
    apply aK es (?_)
    apply cC md (fun te=>?_)
    exact(fI (cx:=cx) (nm:=nm) n "range" rfl rfl).bi fun h1=>gy (cw e) fun h2=>(k.E none nm e).bi fun h4=>.yes ⟨(fun q=>nomatch q),fun te q=>eq_631 h1 h2 h4.e⟩)
 | zip x y kx ky=>exact iP (fun md nm e=>by
    apply nH e;intro n np es pos hs
    apply aL es (fun e1 es=>?_)
    apply aL es (fun e2 es=>?_)
    apply aK es (?_)
    apply cC md (fun te=>?_)
    apply eV te (fun ts k p=>?_)
    exact(fI (cx:=cx) (nm:=nm) n "zip" rfl rfl).bi fun h1=>gy (cw e1) fun h2=>gy (cw e2) fun h3=>(kx.E none nm e1).bi fun h4=>(ky.E none nm e2).bi fun h5=>.yes ⟨(fun q=>nomatch q),fun te q=>by cases q;exact eq_660 h1 h2 h3 h4.e h5.e⟩)
 | cmp1 m elt tg it cnd ke ki kc=>exact {
   E:=fun md nm e=>by
    apply qx nm tg ke ki kc e fun ee te ie ifs sc pos h=>?_
    exact .yes (rP rfl (eq_645 h.s h.t h.n h.i h.e h.c))
   A:=fun nm y n p pos e hn=>by
    apply qx nm tg ke ki kc e fun ee te ie ifs sc q h=>?_
    exact .yes fun hs=>eq_646 h.s h.t h.n hn.1 hn.2.1 hn.2.2 hs h.i h.e h.c}
 | cmp2 elt t1 i1 t2 i2 ke k1 k2=>exact {
   E:=fun md nm e=>by
    apply qy nm t1 t2 ke k1 k2 e fun ee te ie te' ie' sc pos h=>?_
    exact .yes (rP rfl (eq_647 h.s h.t h.t' h.n h.n' h.i h.i' h.e))
   A:=fun nm y n p pos e hn=>by
    apply qy nm t1 t2 ke k1 k2 e fun ee te ie te' ie' sc q h=>?_
    exact .yes fun hs=>eq_648 h.s h.t h.t' h.n h.n' hn.1 hn.2.1 hn.2.2 hs h.i h.i' h.e}
 | asg x y ky=>exact nI (fun nm st=>pW ky nm x st)
 | unp xs y ky=>exact nI (fun nm st=>pX ky nm xs st)
 | ata o n y ko ky=>exact nI (fun nm st=>by
    apply gV st (fun ts e pos=>?_)
    apply aL ts (fun t r=>?_)
    apply aK r (?_)
    apply jj t (fun a n' p=>?_)
    exact gy (decide (aJ n=n')) fun h=>(ky.E none nm e).bi fun h1=>(ko.E none nm a).bi fun h2=>.yes (eq_620 C.T (of_decide_eq_true h) eq_678 h1.e h2.e))
 | asu o i y ko ki ky=>exact nI (fun nm st=>by
    apply gV st (fun ts e pos=>?_)
    apply aL ts (fun t r=>?_)
    apply aK r (?_)
    apply jl t (fun a b p=>?_)
    exact(ky.E none nm e).bi fun h1=>(ko.E none nm a).bi fun h2=>(ki.E none nm b).bi fun h3=>.yes (eq_621 eq_679 h1.e h2.e h3.e))
 | exp y k=>exact nI (fun nm st=>by
    apply nf st (fun e p=>?_)
    exact gy (lC e) fun h=>(k.E none nm e).bi fun h1=>.yes (eq_618 (fun env hk=>eq_675 hk) (eq_677 h _) h1.e))
 | iff c a b kc ka kb=>exact nI (fun nm st=>by
    apply nh st (fun t x y p=>?_)
    exact(kc.E none nm t).bi fun h1=>(ka.K nm x).bi fun h2=>(kb.K nm y).bi fun h3=>.yes (eq_619 h1.m h2 h3))
 | whl c b kc kb=>exact nI (fun nm st=>by
    apply nq st (fun t x y p=>?_)
    apply aK y (?_)
    exact(kc.E none nm t).bi fun h1=>(kb.K nm x).bi fun h2=>.yes (eq_622 h1.m h2))
 | fro tg it b ki kb=>exact nI (fun nm st=>by
    apply ng st (fun te ie x y p=>?_)
    apply aK y (?_)
    exact(ph (nm:=nm) tg te).bi fun h1=>gy (ie.ctorIdx != 7) fun h2=>(ki.E (some te) nm ie).bi fun h3=>(kb.K nm x).bi fun h4=>.yes (eq_632 h1 (eq_100 h2) h3.it h4))
 | ret y k=>exact nI (fun nm st=>by
    apply nj st (fun e p=>?_)
    apply cC e (fun e=>?_)
    exact(k.E none nm e).bi fun h1=>.yes (eq_617 h1.e))
 | rai=>exact {E:=fun md nm e=>.yes (s7 eq_673),S:=fun nm st=>.yes fun ρ σ K A env h₀ ov as s Q E (hx:False) H t=>hx.elim}
end
theorem eq_682 {α:Type}{x:Str}{l r:List (Str×α)}:(l++r).lookup x=(match l.lookup x with
  | some v=>some v
  | none=>r.lookup x):=by
 induction l with
 | nil=>rfl
 | cons y l ih=>
  rw[List.cons_append,List.lookup_cons,List.lookup_cons]
  cases x==y.1 with
  | true=>rfl
  | false=>exact ih
noncomputable def fJ:List (Str×Value)→List (Str×Value)→List (Str×Value)
 | [],acc=>acc
 | (n,v)::r,acc=>if (acc.lookup n).isNone=true then fJ r (acc++[(n,v)]) else fJ r acc
theorem eq_683 {f:Str×Value→List (Str×Value)→Sem (ForInStep (List (Str×Value)))}(hf:∀ x acc,f x acc=if (acc.lookup x.1).isNone=true then pure (.yield (acc++[(x.1,x.2)])) else pure (.yield acc)) :
  ∀ {l acc:List (Str×Value)},(forIn l acc f:Sem (List (Str×Value)))=pure (fJ l acc):=by
 intro l
 induction l with
 | nil=>intro acc;rw[List.forIn_nil];rfl
 | cons n r ih=>
  intro acc
  rw[List.forIn_cons,hf]
  show _=pure (if (acc.lookup n.1).isNone=true then fJ r (acc++[(n.1,n.2)]) else fJ r acc)
  by_cases h:(acc.lookup n.1).isNone=true
  ·rw[if_pos h,if_pos h,pure_bind];exact ih
  ·rw[if_neg h,if_neg h,pure_bind];exact ih
theorem eq_684 {x:Str}{l:List (Str×Value)}:∀ {acc:List (Str×Value)},(fJ l acc).lookup x=(match acc.lookup x with
  | some v=>some v
  | none=>l.lookup x):=by
 induction l with
 | nil=>intro acc;show acc.lookup x=_;cases acc.lookup x<;>rfl
 | cons n r ih=>
  intro acc
  show (if (acc.lookup n.1).isNone=true then fJ r (acc++[(n.1,n.2)]) else fJ r acc).lookup x=_
  rw[List.lookup_cons]
  by_cases h:(acc.lookup n.1).isNone=true
  ·rw[if_pos h,ih,eq_682,List.lookup_cons,List.lookup_nil]
   cases acc.lookup x with
   | some u=>rfl
   | none=>cases x==n.1<;>rfl
  ·rw[if_neg h,ih]
   cases hx:acc.lookup x with
   | some u=>rfl
   | none=>
    cases q:x==n.1 with
    | true=>rw[eq_of_beq q] at hx;rw[hx] at h;exact(h rfl).elim
    | false=>rfl
theorem eq_178 {ps:List Str}(hn:ps.Nodup):∀ {vs:List Value}{i:Nat}{p:Str},ps[i]?=some p→(ps.zip vs).lookup p=vs[i]?:=by
 induction ps with
 | nil=>intro vs i p h;simp at h
 | cons q ps ih=>
  intro vs i p h
  obtain⟨n1,n2⟩:=List.nodup_cons.mp hn
  cases vs with
  | nil=>simp
  | cons v vs=>
   rw[List.zip_cons_cons,List.lookup_cons]
   cases i with
   | zero=>simp at h;subst h;simp
   | succ i=>
    have h':ps[i]?=some p:=by simpa using h
    have hne:(p==q)=false:=by
     rw[beq_eq_false_iff_ne]
     intro e
     subst e
     exact n1 (List.mem_of_getElem? h')
    refine hne▸?_
    simpa using ih n2 h'
theorem eq_341 {f:Str→Option Value}:∀ {ps:List Str}{ws:List Value},ws.length=ps.length→(∀ (i:Nat)(p:Str),ps[i]?=some p→f p=ws[i]?)→ps.filterMap (fun n=>(f n).map (n,·))=ps.zip ws
 | [],ws,_,_=>by simp
 | p::ps,[],h,_=>by simp at h
 | p::ps,w::ws,h,hf=>by
  have h0:=hf 0 p rfl
  rw[List.filterMap_cons,h0,List.zip_cons_cons]
  simp only[List.getElem?_cons_zero,Option.map_some]
  rw[eq_341 (by simpa using h) fun i q hq=>by simpa using hf (i+1) q (by simpa using hq)]
theorem eq_179 {α:Type}{M:Model}{A:Around}{E:VS}{s:Shared}{Q:α→Shared→Prop}{c:Prop} [Decidable c]{t e:Sem α}(h:¬c)(k:wpAny M A e Q E s):wpAny M A (if c then t else e) Q E s:=by rw[if_neg h];exact k
theorem eq_180 {b:Bool}(h:b=false):¬ b=true:=fun e=>by rw[h] at e;exact Bool.noConfusion e
theorem eq_685 {i v p d:Nat}(h1:p≤v+d)(h2:v≤i)(h3:d≤p)(h4:v≤p):i - (p - d)=d - (p - v)+(i - v):=by
 obtain⟨a,rfl⟩:=Nat.exists_eq_add_of_le h4
 obtain⟨b,rfl⟩:=Nat.exists_eq_add_of_le h2
 obtain⟨e,rfl⟩:=Nat.exists_eq_add_of_le (Nat.le_of_add_le_add_left h1)
 obtain⟨f,rfl⟩:=Nat.exists_eq_add_of_le (show e≤v from Nat.le_of_add_le_add_left (show a+e≤a+v from Nat.add_comm v a▸h3))
 rw[show e+f+a=a+e+f from by rw[Nat.add_comm,Nat.add_assoc],Nat.add_sub_cancel_left,show a+e+f=e+f+a from by rw[Nat.add_comm (e+f),Nat.add_assoc],Nat.add_sub_cancel_left,Nat.add_sub_cancel_left,Nat.add_sub_cancel_left,show e+f+b=e+b+f from Nat.add_right_comm e f b,Nat.add_sub_cancel]
theorem eq_686 {ps:List Str}{vs dv:List Value}(hnd:ps.Nodup)(h2:ps.length≤vs.length+dv.length)(h1:vs.length≤ps.length)(h3:dv.length≤ps.length) :
  (ps++[]).filterMap (fun n=>((fJ ((ps.drop (ps.length - (dv.drop (dv.length - ps.length)).length)).zip (dv.drop (dv.length - ps.length))) (ps.zip vs)).lookup n).map (n,·))=ps.zip (vs++dv.drop (dv.length - (ps.length - vs.length))):=by
 rw[append_nil,Nat.sub_eq_zero_of_le h3,List.drop_zero]
 refine eq_341 (by rw[length_append,List.length_drop,Nat.sub_sub_self (Nat.sub_le_iff_le_add'.mpr h2),Nat.add_sub_cancel' h1]) fun i p hi=>?_
 have hlt:i<ps.length:=(List.getElem?_eq_some_iff.mp hi).1
 rw[eq_684,eq_178 hnd hi]
 by_cases hv:i<vs.length
 ·rw[List.getElem?_append_left hv,List.getElem?_eq_getElem hv]
 ·have hv:=Nat.le_of_not_lt hv
  rw[List.getElem?_append_right hv,List.getElem?_eq_none hv]
  have hdr:(ps.drop (ps.length - dv.length))[i - (ps.length - dv.length)]?=some p:=by
   rw[List.getElem?_drop,Nat.add_sub_cancel' (Nat.le_trans (Nat.sub_le_iff_le_add.mpr h2) hv)];exact hi
  refine(eq_178 (hnd.sublist (List.drop_sublist _ _)) hdr).trans ?_
  rw[List.getElem?_drop,eq_685 h2 hv h3 h1]
theorem eq_687 {ps:List Str}{vs:List Value}{n:Nat}(h:n≤vs.length)(hnd:ps.Nodup):(!((ps.take n).filter fun x=>((ps.zip vs).lookup x).isNone).isEmpty)=false:=by
 have:(ps.take n).filter (fun x=>((ps.zip vs).lookup x).isNone)=[]:=List.filter_eq_nil_iff.mpr fun p hm=>by
  obtain⟨i,hi⟩:=List.mem_iff_getElem?.mp hm
  rw[List.getElem?_take] at hi
  by_cases hlt:i<n
  ·rw[if_pos hlt] at hi
   rw[eq_178 hnd hi,List.getElem?_eq_getElem (Nat.lt_of_lt_of_le hlt h)]
   exact Bool.noConfusion
  ·rw[if_neg hlt] at hi;cases hi
 refine this▸?_;rfl
theorem eq_688 {s:Shared}{fd:FuncData}{as:List Arg}{kd:List (Option Expr)}{df:List Expr}(hp:fd.params={posonlyargs:=[],args:=as,vararg:=none,kwonlyargs:=[],kw_defaults:=kd,kwarg:=none,defaults:=df})(hnd:(as.map (·.arg)).Nodup){vs dv:List Value}
  (h1:vs.length≤(as.map (·.arg)).length)(h2:(as.map (·.arg)).length≤vs.length+dv.length)(h3:dv.length≤(as.map (·.arg)).length)
  (hd:∀ {M:Model}{A:Around}{E:VS}{Q:Option (Array Value)→Shared→Prop},(∀ r:Option (Array Value),(r.getD #[]).toList=dv→Q r s)→wpAny M A (seqItems? fd.defaults) Q E s) :
  BindsTo s fd ⟨vs,[]⟩ ((as.map (·.arg)).zip (vs++dv.drop (dv.length - ((as.map (·.arg)).length - vs.length)))):=fun M A E Q hq=>by
 obtain⟨a,b,p,c,d,e,f,g,h,i,j,k,l,m,n⟩:=fd
 cases hp
 rw[← eq_686 hnd h2 h1 h3] at hq
 refine wpAny_bind (wpAny_pure (wpAny_bind (hd fun r hr=>?_)))
 refine hr▸?_
 refine eq_179 (eq_180 (Bool.and_eq_false_imp.mpr fun q=>absurd (of_decide_eq_true q) (Nat.not_lt.mpr h1))) ?_
 refine eq_179 (eq_180 (eq_687 ?_ hnd)) (wpAny_bind ?_)
 ·show (as.map (·.arg)).length - (dv.drop (dv.length - (as.map (·.arg)).length)).length≤vs.length
  rw[Nat.sub_eq_zero_of_le h3,List.drop_zero]
  exact Nat.sub_le_of_le_add h2
 refine(eq_683 fun J J=>rfl)▸?_
 exact wpAny_pure (wpAny_bind (wpAny_pure (eq_179 (eq_180 rfl) (wpAny_pure hq))))
noncomputable def oY {P:Prop}(x:Data)(k:∀ vs n,x=.seq vs n→Dc P):Dc P:=match h:x with
 | .seq vs n=>k vs n rfl
 | _=>.no
noncomputable def oc {P:Prop}(x:Data)(k:∀ fd,x=.func fd→Dc P):Dc P:=match h:x with
 | .func fd=>k fd rfl
 | _=>.no
theorem eq_689 {M:Model}{A:Around}{E:VS}{s:Shared}{Q:Option (Array Value)→Shared→Prop}(h:Q none s):wpAny M A (seqItems? .none) Q E s:=wpAny_of_eq rfl h
def oZ (K:Frag)(v:Value)(dv:List Value):Prop:=∀ {s:Shared}{M:Model}{A:Around}{E:VS}{Q:Option (Array Value)→Shared→Prop},K.In s.heap→(∀ r:Option (Array Value),(r.getD #[]).toList=dv→Q r s)→wpAny M A (seqItems? v) Q E s
noncomputable def qR {K:Frag}{P:Prop}(v:Value)(k:∀ dv,oZ K v dv→Dc P):Dc P:=by
 cases v with
 | none=>exact k [] fun J h=>eq_689 (h none rfl)
 | ref a=>exact oK (K.lookup a) fun o ho=>oY o.data fun vs n e=>k vs.toList fun X h=>wpAny_seqItems (X _ _ ho) e (h (some vs) rfl)
 | _=>exact .no
def lV (cx:Cx)(Φ:b9) (d f:Nat)(fn:Fn):Prop:=∃ fd body dv,FnAt cx f fn fd body dv∧SS cx Φ d fd.scope.names fn.body body
theorem eq_690 {nm:gz}{ps:List Nat}(h:(ps.all fun p=>bc p&&(pP (nm.lookup (aJ p))).ok)=true):∀ p∈ps,bc p=true∧(nm.lookup (aJ p)=some .local∨nm.lookup (aJ p)=some .cell):=fun p hp=>
 have:=Bool.and_eq_true_iff.mp (List.all_eq_true.mp h p hp)
 ⟨this.1,Dc.get this.2⟩
theorem eq_691 {nm:gz}(h:(nm.all fun x=>!(x.2==.free))=true):∀ n,nm.lookup n≠some .free:=fun n hn=>Bool.noConfusion (List.all_eq_true.mp h _ (rG hn))
theorem eq_692 {p:Arguments}(h1:p.posonlyargs=[])(h2:p.vararg=none)(h3:p.kwonlyargs=[])(h4:p.kwarg=none):p={posonlyargs:=[],args:=p.args,vararg:=none,kwonlyargs:=[],kw_defaults:=p.kw_defaults,kwarg:=none,defaults:=p.defaults}:=by
 cases p;cases h1;cases h2;cases h3;cases h4;rfl
noncomputable def og {α:Type}{P:Prop}(l:List α)(k:l=[]→Dc P):Dc P:=List.casesOn (motive:=fun l'=>l=l'→Dc P) l k (fun J J J=>.no) rfl
noncomputable def o3 {α:Type}{P:Prop}(l:Option α)(k:l=none→Dc P):Dc P:=Option.casesOn (motive:=fun l'=>l=l'→Dc P) l k (fun J J=>.no) rfl
noncomputable def pY {P:Prop}(p:Arguments)(k:p={posonlyargs:=[],args:=p.args,vararg:=none,kwonlyargs:=[],kw_defaults:=p.kw_defaults,kwarg:=none,defaults:=p.defaults}→Dc P):Dc P:=
 og p.posonlyargs fun h1=>o3 p.vararg fun h2=>og p.kwonlyargs fun h3=>o3 p.kwarg fun h4=>k (eq_692 h1 h2 h3 h4)
structure FnA (cx:Cx)(fn:Fn)(fd:FuncData)(dv:List Value):Prop where
 code:codeIn cx.K fd.code fd.qualname=true
 glob:fd.globals=mainGlobals
 bi:fd.builtins=builtinsNs
 clo:fd.closure=[]
 co:fd.scope.isCoroutine=false
 gen:fd.scope.isGenerator=false
 kind:fd.scope.kind=.function
 hdv:jV cx.K fn.dfl dv∧dv.length=fn.dfl.length
 nodup:fk fn.params=true
 pk:∀ p∈fn.params,bc p=true∧(fd.scope.names.lookup (aJ p)=some .local∨fd.scope.names.lookup (aJ p)=some .cell)
 nofree:∀ n,fd.scope.names.lookup n≠some .free
 nd:(fd.scope.names.map (·.1)).Nodup
noncomputable def qS {cx:Cx}{fn:Fn}{fd:FuncData}{dv:List Value}{P:Prop}(k:FnA cx fn fd dv→Dc P):Dc P:=
 gy (codeIn cx.K fd.code fd.qualname) fun q1=>ox fd.globals mainGlobals fun q2=>ox fd.builtins builtinsNs fun q3=>og fd.closure fun q4=>gn fd.scope.isCoroutine fun q5=>gn fd.scope.isGenerator fun q6=>ox fd.scope.kind .function fun q7=>
 (pM cx.K fn.dfl dv).bi fun q8=>gy (fk fn.params) fun q9=>gy (fn.params.all fun p=>bc p&&(pP (fd.scope.names.lookup (aJ p))).ok) fun r1=>gy (fd.scope.names.all fun x=>!(x.2==.free)) fun r2=>gy (ij (fd.scope.names.map (·.1))) fun r3=>
 k ⟨q1,q2,q3,q4,q5,q6,q7,q8,q9,eq_690 r1,eq_691 r2,eq_167 r3⟩
theorem eq_693 {cx:Cx}{fn:Fn}{fd:FuncData}{dv:List Value}(a:FnA cx fn fd dv)(hp:fd.params={posonlyargs:=[],args:=fd.params.args,vararg:=none,kwonlyargs:=[],kw_defaults:=fd.params.kw_defaults,kwarg:=none,defaults:=fd.params.defaults})(hm:fn.params.map aJ=fd.params.args.map (·.arg))(hd:dv.length≤fn.params.length)(df:oZ cx.K fd.defaults dv)
  (s:Shared)(vs:List Value)(X:cx.K.In s.heap)(h1:vs.length≤fn.params.length)(h2:fn.params.length - vs.length≤dv.length):BindsTo s fd ⟨vs,[]⟩ ((fn.params.map aJ).zip (vs++dv.drop (dv.length - (fn.params.length - vs.length)))):=by
 have hl:=congrArg List.length hm
 rw[length_map] at hl
 have hnd:=eq_150 (fun p h=>(a.pk p h).1) (eq_91 a.nodup)
 rw[hm] at hnd ⊢
 rw[hl] at h1 h2 hd ⊢
 exact eq_688 hp hnd h1 (by rw[Nat.add_comm];exact Nat.le_add_of_sub_le h2) hd (df X)
noncomputable def qT {cx:Cx}{Φ:b9}{d:Nat}(C:Ctx cx Φ d) (f:Nat)(fn:Fn):Dc (lV cx Φ d f fn):=
 oK (cx.K.lookup (cx.fa f)) fun o ho=>oc o.data fun fd he=>by
  refine qR (K:=cx.K) fd.defaults fun dv df=>?_
  refine qS (cx:=cx) (fn:=fn) (fd:=fd) (dv:=dv) fun a=>pY fd.params fun hp=>ox (fn.params.map aJ) (fd.params.args.map (·.arg)) fun hm=>gy (Nat.ble dv.length fn.params.length) fun hl=>ox (typeIn cx.K (.ref (cx.fa f))) (some (.type "function")) fun ht=>gy (keepIn cx.K (.ref (cx.fa f))) fun hk=>?_
  refine match hb:fd.body with
   | .stmts body=>((qQ C fn.body).K fd.scope.names body).bi fun hS=>.yes ⟨fd,body,dv,⟨⟨o,ho,he⟩,a.code,hb,a.glob,a.bi,a.clo,a.co,a.gen,a.kind,ht,hk,a.hdv,a.nodup,a.pk,a.nofree,a.nd,eq_693 a hp hm (Nat.le_of_ble_eq_true hl) df⟩,hS⟩
   | .expr _=>.no
structure PrgOk (cx:Cx):Prop where
 fns:∀ Φ d,Ctx cx Φ d→∀ f fn,f<1000→cx.P.fn f=some fn→lV cx Φ d f fn
 cls:∀ c cl,cx.P.cl c=some cl→cl.init<1000∧ClsAt cx c cl.init
 tab:TabOk cx
 lt:∀ c x f,cx.P.tab.meth c x=some f→f<1000
theorem eq_181 {cx:Cx}(O:PrgOk cx){Φ:b9}{d:Nat}(hP:fH cx Φ d){f:Nat}(hf:f<1000){fn:Fn}(h:cx.P.fn f=some fn):lV cx Φ d f fn:=O.fns Φ d ⟨hP,O.tab,O.lt⟩ f fn hf h
theorem eq_694 {cx:Cx}(O:PrgOk cx):∀ d,fH cx (ae cx.P d) d:=by
 intro d
 induction d with
 | zero=>exact fun f args σ K A h₀ ov as s vs Q E h=>h.elim
 | succ d ih=>
  intro f args σ K A h₀ ov as s vs Q E h ha hg st rv t
  unfold bN
  replace h:(bif Nat.blt f 1000 then bQ (cx.P.fn f) fun fn=>jq cx.P.tab (ae cx.P d) fn args σ K
   else bQ (cx.P.cl (f - 1000)) fun c=>bQ (cx.P.fn c.init) fun fn=>mq cx.P.tab (ae cx.P d) (f - 1000) c.pur fn args σ K):=h
  cases hf:Nat.blt f 1000 with
  | true=>
   rw[hf] at h
   obtain⟨fn,hfn,h⟩:=rf h
   obtain⟨fd,body,dv,G,B⟩:=eq_181 O ih (Nat.le_of_ble_eq_true hf) hfn
   exact eq_609 G B h ha.acall hg st rv t
  | false=>
   rw[hf] at h
   obtain⟨c,hc,h⟩:=rf h
   have hl:=(O.cls _ _ hc).1;have hC:=(O.cls _ _ hc).2
   obtain⟨fn,hfn,h⟩:=rf h
   obtain⟨fd,body,dv,G,B⟩:=eq_181 O ih hl hfn
   exact eq_611 hC G B h ha hg st rv t
end Mine
end
section
namespace Mine
open PySem
noncomputable abbrev aa:Nat:=940784431544508874863 -- name
noncomputable abbrev ai:Nat:=536561907138626 -- Any
noncomputable abbrev aB:Nat:=4462132279199515377726760041840739 -- bottom
noncomputable abbrev dJ:Nat:=940784444738698739797 -- Type
noncomputable abbrev bV:Nat:=19803071264205767009059779011386907608030904391 -- Function
noncomputable abbrev kM:Nat:=525732720672396804170 -- Int8
noncomputable abbrev jt:Nat:=1063855182429990088154808394 -- Int16
noncomputable abbrev ju:Nat:=986483948421397894683164746 -- Int32
noncomputable abbrev aG:Nat:=1025169602319182138838089802 -- Int64
noncomputable abbrev ik:Nat:=4746085994307429044773195391959107 -- BigInt
noncomputable abbrev jv:Nat:=1102541426623558302658723926 -- UInt8
noncomputable abbrev im:Nat:=2231066023543418573354032733093974 -- UInt16
noncomputable abbrev io:Nat:=2068806785399831437630588313403478 -- UInt32
noncomputable abbrev ip:Nat:=2149936481842877460828577704443990 -- UInt64
noncomputable abbrev dM:Nat:=189233111971406016890071863014652881481968358815770385337034997829 -- DivideError
noncomputable abbrev dk:Nat:=396850599237058071133047987664906595764508296172498693000317541644501066 -- InexactError
noncomputable abbrev eI:Nat:=43026628184499262918068748834833259361903508925186133 -- TypeError
noncomputable abbrev cf:Nat:=33760315305594724102611398333925239420156907171674789850815770388929256192423170591583745193605238133731885140 -- StackOverflowError
noncomputable abbrev cW:Nat:=832256027891194807992813853427434197121665879006039623855942898403932760965186 -- ArgumentError
noncomputable abbrev cX:Nat:=832256027891194807992813853427434732339635714616678854380451204588354148499536 -- OverflowError
noncomputable abbrev cq:Nat:=14698331545505051342508815599731044485231874059944473256984798446547504427845092187163885285026167783493 -- DimensionMismatch
noncomputable abbrev cK:Nat:=1684658990521989882650242859071830686747609610508504493265835522228245489994734501958 -- ErrorException
noncomputable abbrev dN:Nat:=189233111971406016890071863014652840917361922447458331344324526158 -- MethodError
noncomputable abbrev cL:Nat:=1745367393404074973971745558343050107218925527359950905821976203848435972354630221890 -- AmbiguousError
noncomputable abbrev aq:Nat:=4705521155757533951068497103552625 -- params
noncomputable abbrev bd:Nat:=1972967942959123809794261109 -- tuple
noncomputable abbrev aj:Nat:=2243767252765815653972050028 -- kinds
noncomputable abbrev fo:Nat:=1079135038485617967219 -- rest
noncomputable abbrev bv:Nat:=1079134981311013322861 -- left
noncomputable abbrev aH:Nat:=1953625148292055806928486503 -- found
noncomputable abbrev aY:Nat:=940784453534749818985 -- here
noncomputable abbrev bM:Nat:=2147053288653715735176020086 -- union
noncomputable abbrev bO:Nat:=3164057445595493679858081601683523 -- BOTTOM
noncomputable abbrev bP:Nat:=395824351674434 -- ANY
noncomputable abbrev aQ:Nat:=931561081497916014712 -- word
noncomputable abbrev ad:Nat:=931561063905717387372 -- kind
noncomputable abbrev b6:Nat:=479387298300002 -- all
noncomputable abbrev be:Nat:=4178178544748253641193353537126517 -- typeof
noncomputable abbrev bW:Nat:=2243767400339785835817730161 -- parts
noncomputable abbrev bE:Nat:=1125251876679650902126 -- many
noncomputable abbrev aM:Nat:=505775554297975 -- var
noncomputable abbrev cj:Nat:=1972967942959062237101162613 -- table
noncomputable abbrev lD:Nat:=2224424448875353624042012778 -- inner
noncomputable abbrev jX:Nat:=4705520981672335830411569226842211 -- bounds
noncomputable abbrev bq:Nat:=1079135034087563067505 -- part
noncomputable abbrev bX:Nat:=1953625148292055806928486499 -- bound
noncomputable abbrev kO:Nat:=1079135060475850522741 -- text
noncomputable abbrev jY:Nat:=123732029 -- <:
noncomputable abbrev jZ:Nat:=4137613512770042941672065821835370 -- inside
noncomputable abbrev ba:Nat:=69206061 -- ,
noncomputable abbrev eX:Nat:=2127710346412712734805196913 -- param
noncomputable abbrev mx:Nat:=124 -- {
noncomputable abbrev dl:Nat:=126 --}
noncomputable abbrev gY:Nat:=0 --
noncomputable abbrev eJ:Nat:=940784431544538234996 -- some
noncomputable abbrev aw:Nat:=448600976916592 -- one
noncomputable abbrev eh:Nat:=10548757593292514351324042894481863737431 -- Vararg{
noncomputable abbrev dz:Nat:=5030039554673557224262728113193045 -- Tuple{
noncomputable abbrev eK:Nat:=5030039728758902918854653494952022 -- Union{
noncomputable abbrev iT:Nat:=2807333664711525892962482323787131912225 --  where
noncomputable abbrev iq:Nat:=2398509766899869021315792981 -- Type{
noncomputable abbrev gc:Nat:=232783975 -- fn
noncomputable abbrev eL:Nat:=3487898439118163998753230919529161293941 -- typeof(
noncomputable abbrev my:Nat:=42 -- )
noncomputable abbrev fD:Nat:=111 -- n
noncomputable abbrev gN:Nat:=10718899588049290357999218988754193612886 -- Union{}
noncomputable abbrev ah:Nat:=950007799183325528180 -- self
noncomputable abbrev aR:Nat:=18019010797617480985009834666259571785930375274 -- is_asked
noncomputable abbrev cD:Nat:=2224424448875309643585290352 -- order
noncomputable abbrev bh:Nat:=4705521252471636413748968761065581 -- lowers
noncomputable abbrev bH:Nat:=4705521252471636413718182437585014 -- uppers
noncomputable abbrev bn:Nat:=179360073642549247132238869369724268878786980975264170580488749162 -- is_diagonal
noncomputable abbrev aU:Nat:=1069911684040970207347 -- rows
noncomputable abbrev bI:Nat:=2224424448875393206462709869 -- lower
noncomputable abbrev b7:Nat:=2224424448875362420139229302 -- upper
noncomputable abbrev el:Nat:=1125251832699215151203 -- body
noncomputable abbrev eY:Nat:=2030996446864181889645674599 -- fresh
noncomputable abbrev j0:Nat:=34 -- !
noncomputable abbrev bf:Nat:=940784391962107052148 -- side
noncomputable abbrev fK:Nat:=90233375608935698689594973186797858392661335274370854027384 -- with_lower
noncomputable abbrev fL:Nat:=90233375608934449847948926428715539874033978249034984325240 -- with_upper
noncomputable abbrev am:Nat:=2224424448875327235775529072 -- other
noncomputable abbrev c9:Nat:=527765816213619 -- row
noncomputable abbrev dA:Nat:=41530049437435798094522092761014694826479992512184426 -- is_within
noncomputable abbrev cZ:Nat:=940784457932787941476 -- case
noncomputable abbrev fM:Nat:=65909594411684475096444157545068859302161437842546981077070 -- MOST_CASES
noncomputable abbrev er:Nat:=2243767261989209681042604132 -- cases
noncomputable abbrev ct:Nat:=1005348000618162159719 -- fuel
noncomputable abbrev cp:Nat:=8847346042641382399987775315101205135480 -- waiting
noncomputable abbrev et:Nat:=2243767326552734774218195048 -- goals
noncomputable abbrev au:Nat:=2243767261989143710361714804 -- sides
noncomputable abbrev je:Nat:=8592133902367363715099518279055761735796 -- settled
noncomputable abbrev bF:Nat:=1069911692837033869432 -- ways
noncomputable abbrev jw:Nat:=1042241488765579165812 -- step
noncomputable abbrev bS:Nat:=536561879875704 -- way
noncomputable abbrev j1:Nat:=4097048712905552714645043977125988 -- copied
noncomputable abbrev eM:Nat:=351989256210431992830432287330888947176801850739194568339300756920205410 -- are_concrete
noncomputable abbrev mz:Nat:=1005347983025963532392 -- goal
noncomputable abbrev jf:Nat:=9868193305663397248172786513636180885615 -- numbers
noncomputable abbrev dP:Nat:=940784431544508874868 -- same
noncomputable abbrev bU:Nat:=435406852063348 -- sub
noncomputable abbrev jx:Nat:=2321138606678235530454368355 -- below
noncomputable abbrev aE:Nat:=1972968035192839780255662178 -- above
noncomputable abbrev jg:Nat:=9357769755282182981145756369731257892963 -- by_form
noncomputable abbrev gB:Nat:=43026626400439476894354308332784433304785292001017954 -- add_upper
noncomputable abbrev gC:Nat:=43026626400440072388455854981802872844993801935126626 -- add_lower
noncomputable abbrev ir:Nat:=4097048712905598831456849741480048 -- opened
noncomputable abbrev j2:Nat:=4502696904978678356839959489413220 -- chosen
noncomputable abbrev lF:Nat:=2147053233313448329671082097 -- plain
noncomputable abbrev gZ:Nat:=2243767252765833246170677368 -- words
noncomputable abbrev jh:Nat:=9272698473950002498337674647283171328111 -- nominal
noncomputable abbrev kP:Nat:=645636398821790449749 -- TYPE
noncomputable abbrev iu:Nat:=14094077771121694042485323404894198929914069063 -- FUNCTION
noncomputable abbrev j3:Nat:=4705521252471636413718182448070772 -- supers
noncomputable abbrev cR:Nat:=4097048712905654171728653257277560 -- wanted
noncomputable abbrev j4:Nat:=4137613706198229420156993983742058 -- is_one
noncomputable abbrev dR:Nat:=167841556649414059081283706345982049549485135430905613107377209450 -- is_concrete
noncomputable abbrev g6:Nat:=2224424448875380012293816429 -- later
noncomputable abbrev eu:Nat:=91018013325857428131420152132490343941436560731430423887981 -- later_ones
noncomputable abbrev iv:Nat:=1005348018210306261109 -- tail
noncomputable abbrev cI:Nat:=245366882 -- at
noncomputable abbrev eN:Nat:=4259307951049222860650849371160692 -- search
noncomputable abbrev nV:Nat:=488183410196595 -- run
noncomputable abbrev ax:Nat:=2224424448875362420149715060 -- super
noncomputable abbrev af:Nat:=192524111670389465439234995534901804472499387371211598012088320106 -- is_abstract
noncomputable abbrev ag:Nat:=80033087907939530018955503690696537271643910750254556774506 -- is_mutable
noncomputable abbrev ar:Nat:=4705520981672317383597126760530023 -- fields
noncomputable abbrev cQ:Nat:=2243767326552743570290245733 -- decls
noncomputable abbrev cy:Nat:=1005347991822035583077 -- decl
noncomputable abbrev mA:Nat:=488183414390896 -- own
noncomputable abbrev jy:Nat:=931561055109624365176 -- wild
noncomputable abbrev gF:Nat:=43026628184498242070197255073474189968204040803188853 -- table_for
noncomputable abbrev iw:Nat:=18375823571499401479770734400748018262834413684 -- super_of
noncomputable abbrev bt:Nat:=8677205021440035254890753727745860042853 -- declare
noncomputable abbrev bA:Nat:=4664956181807734922898114902753359 -- Number
noncomputable abbrev cg:Nat:=396850576199986422241409384829096569760369238843307659427152807319306306 -- AbstractChar
noncomputable abbrev ay:Nat:=1578419278241389746748781566093134654510127267981118373836260087334330243147555143746 -- AbstractString
noncomputable abbrev aP:Nat:=41530050507871652694583733924744563533412599118954566 -- Exception
noncomputable abbrev bk:Nat:=1005347983025942560851 -- Real
noncomputable abbrev av:Nat:=9783122186590551623017409654180171219018 -- Integer
noncomputable abbrev aO:Nat:=4097048712905598831465645819822164 -- Signed
noncomputable abbrev ch:Nat:=18019010797617602679235342892703170923652448342 -- Unsigned
noncomputable abbrev mB:Nat:=2798973879301577133596967379664980 -- SIGNED
noncomputable abbrev kQ:Nat:=12310017304533529712660887286210462245535613014 -- UNSIGNED
noncomputable abbrev cz:Nat:=1005348044598614687811 -- Bool
noncomputable abbrev kW:Nat:=1060688215247077507140 -- Char
noncomputable abbrev aA:Nat:=4218743344612780761704124746039380 -- String
noncomputable abbrev eO:Nat:=4421567459992046016151415848697940 -- Symbol
noncomputable abbrev gf:Nat:=8847346042641382399877094899037488808015 -- Nothing
noncomputable abbrev kX:Nat:=1060688281217808728134 -- Expr
noncomputable abbrev mC:Nat:=931561006731104354409 -- head
noncomputable abbrev ix:Nat:=1069911613672232321122 -- args
noncomputable abbrev iy:Nat:=289873483142144707780769113483423371132911568962761269398300813827244113 -- PLAIN_ERRORS
noncomputable abbrev iU:Nat:=138222447939941743746170574895583806578117165126237052169753722965 -- TEXT_ERRORS
noncomputable abbrev j5:Nat:=457397080424558 -- msg
noncomputable abbrev iV:Nat:=138222447939941743746170574895583806578117165052450023098348994628 -- CALL_ERRORS
noncomputable abbrev mW:Nat:=103 -- f
noncomputable abbrev c5:Nat:=832256027891194807992813853427433840308636784215103885768805085033326488584278 -- UndefVarError
noncomputable abbrev dW:Nat:=189233111971406016890071863014653449389437261108659111646310957123 -- BoundsError
noncomputable abbrev qz:Nat:=98 -- a
noncomputable abbrev qA:Nat:=106 -- i
noncomputable abbrev fp:Nat:=18554229448017460382667049321706311709238493282 -- anything
noncomputable abbrev a9:Nat:=215504377610325 -- T.0
noncomputable abbrev ev:Nat:=215504377610319 -- N.0
noncomputable abbrev c6:Nat:=1014571372655014838378 -- item
noncomputable abbrev mD:Nat:=996124668163684040819 -- rank
noncomputable abbrev aD:Nat:=882915018620296215956679645828866444240512965227629535839344595431108538007618 -- AbstractArray
noncomputable abbrev bg:Nat:=2359824103778721536384434242 -- Array
noncomputable abbrev fq:Nat:=21765535650688542705564479887814098296680480852 -- SubArray
noncomputable abbrev bG:Nat:=738174927778883430017339157220863955419210059845005917204765942812468756611138 -- AbstractRange
noncomputable abbrev eP:Nat:=38162749308213985017270482039736588684364425539354710 -- UnitRange
noncomputable abbrev g7:Nat:=2263110195006801062152634484 -- start
noncomputable abbrev jz:Nat:=1042241532746044276852 -- stop
noncomputable abbrev eR:Nat:=38162749308213985017270482039736551790858685946789972 -- StepRange
noncomputable abbrev gG:Nat:=452999004553299 -- Ref
noncomputable abbrev qB:Nat:=121 -- x
noncomputable abbrev lG:Nat:=1972967942959119411720487032 -- whole
noncomputable abbrev ft:Nat:=19446258150041195639509907903688735560648622163 -- Rational
noncomputable abbrev nW:Nat:=483785363685487 -- num
noncomputable abbrev nX:Nat:=488183376642149 -- den
noncomputable abbrev fO:Nat:=2147053233313474717935468643 -- begin
noncomputable abbrev cG:Nat:=4746086032993350420394886834421876 -- script
noncomputable abbrev jA:Nat:=940784488719130296436 -- size
noncomputable abbrev aW:Nat:=488183403905142 -- urn
noncomputable abbrev lH:Nat:=2263110111996479118715650149 -- digit
noncomputable abbrev lI:Nat:=496979490635893 -- top
noncomputable abbrev dm:Nat:=4705521252471728647434152930443367 -- floors
noncomputable abbrev oh:Nat:=104 -- g
noncomputable abbrev kY:Nat:=1023794801866476355701 -- turn
noncomputable abbrev jB:Nat:=246290703188052 -- S.7
noncomputable abbrev fP:Nat:=2147053233313448329662693476 -- chain
noncomputable abbrev db:Nat:=1953625185185491177774776437 -- third
noncomputable abbrev g8:Nat:=2263110204230247865775030375 -- first
noncomputable abbrev j6:Nat:=4097048886990926079326691637854324 -- second
noncomputable abbrev kZ:Nat:=968454578441428140131 -- both
noncomputable abbrev eZ:Nat:=2108367634755896306646909044 -- small
noncomputable abbrev e7:Nat:=255086796210260 -- S.9
noncomputable abbrev g9:Nat:=2263110038209494027803295848 -- great
noncomputable abbrev hG:Nat:=250688749699156 -- S.8
noncomputable abbrev cA:Nat:=1060688303208022409319 -- four
noncomputable abbrev cM:Nat:=1079135020893454991476 -- spot
noncomputable abbrev pt:Nat:=108 -- k
noncomputable def nJ:Fn:={params:=[aa,aq],dfl:=[.tup []],pur:=true,body:=(.cons (.ret (.tup (.cons (.con (.str aa)) (.cons (.var aa) (.cons (.blt .tuple false (.cons (.var aq) .nil)) .nil))))) .nil)}
noncomputable def k6:Fn:={params:=[aj,fo],dfl:=[.none],pur:=true,body:=(.cons (.ret (.tup (.cons (.con (.str bd)) (.cons (.blt .tuple false (.cons (.var aj) .nil)) (.cons (.var fo) .nil))))) .nil)}
noncomputable def k7:T:=(.emp true true (.var bv))
noncomputable def j7:T:=(.cons (.asg aY (.bme .pop (.var bv) .nil)) (.cons (.iff (.cmp .Eq true (.sub (.var aY) (.con (.int 0))) (.con (.str bM))) (.cons (.exp (.bme .extend (.var bv) (.cons (.slc false .rev (.sub (.var aY) (.con (.int 1))) (.con .none)) .nil))) .nil) (.cons (.iff (.bl false (.cons (.cmp .NotEq true (.var aY) (.glo bO (.tup [.str aB]))) (.cons (.cmp .NotIn false (.var aY) (.var aH)) .nil))) (.cons (.exp (.bme .append (.var aH) (.cons (.var aY) .nil))) .nil) .nil) .nil)) .nil))
noncomputable def px:T:=(.cons (.iff (.cmp .In false (.glo bP (.tup [.str aa,.str ai,.tup []])) (.var aH)) (.cons (.ret (.glo bP (.tup [.str aa,.str ai,.tup []]))) .nil) .nil) (.cons (.iff (.emp false true (.var aH)) (.cons (.ret (.glo bO (.tup [.str aB]))) .nil) .nil) (.cons (.ret (.ife (.cmp .Eq true (.blt .len false (.cons (.var aH) .nil)) (.con (.int 1))) (.sub (.var aH) (.con (.int 0))) (.tup (.cons (.con (.str bM)) (.cons (.blt .tuple false (.cons (.srt (.var aH) 8) .nil)) .nil))))) .nil)))
noncomputable def k8:Fn:={params:=[aj],dfl:=[],pur:=true,body:=(.cons (.unp [bv,aH] (.tup (.cons (.slc true .rev (.blt .list false (.cons (.var aj) .nil)) (.con .none)) (.cons (.lis true .nil) .nil)))) (.cons (.whl k7 j7) px))}
noncomputable def gO:Fn:={params:=[ad],dfl:=[],pur:=true,body:=(.cons (.asg aQ (.sub (.var ad) (.con (.int 0)))) (.cons (.iff (.cmp .Eq true (.var aQ) (.con (.str aa))) (.cons (.ret (.blt .list false (.cons (.sub (.var ad) (.con (.int 2))) .nil))) .nil) .nil) (.cons (.iff (.cmp .Eq true (.var aQ) (.con (.str bd))) (.cons (.ret (.bin .Add false (.blt .list false (.cons (.sub (.var ad) (.con (.int 1))) .nil)) (.ife (.isn false (.sub (.var ad) (.con (.int 2)))) (.lis false .nil) (.lis false (.cons (.sub (.var ad) (.con (.int 2))) .nil))))) .nil) .nil) (.cons (.iff (.cmp .Eq true (.var aQ) (.con (.str bM))) (.cons (.ret (.blt .list false (.cons (.sub (.var ad) (.con (.int 1))) .nil))) .nil) .nil) (.cons (.iff (.cmp .Eq true (.var aQ) (.con (.str b6))) (.cons (.ret (.lis false (.cons (.sub (.var ad) (.con (.int 2))) (.cons (.sub (.var ad) (.con (.int 3))) (.cons (.sub (.var ad) (.con (.int 4))) .nil))))) .nil) .nil) (.cons (.ret (.ife (.cmp .Eq true (.var aQ) (.con (.str be))) (.lis false (.cons (.sub (.var ad) (.con (.int 1))) .nil)) (.lis false .nil))) .nil))))))}
noncomputable def iz:Fn:={params:=[ad,bW],dfl:=[],pur:=true,body:=(.cons (.asg aQ (.sub (.var ad) (.con (.int 0)))) (.cons (.iff (.cmp .Eq true (.var aQ) (.con (.str aa))) (.cons (.ret (.tup (.cons (.con (.str aa)) (.cons (.sub (.var ad) (.con (.int 1))) (.cons (.blt .tuple false (.cons (.var bW) .nil)) .nil))))) .nil) .nil) (.cons (.iff (.cmp .Eq true (.var aQ) (.con (.str bd))) (.cons (.asg bE (.blt .len false (.cons (.sub (.var ad) (.con (.int 1))) .nil))) (.cons (.ret (.tup (.cons (.con (.str bd)) (.cons (.blt .tuple false (.cons (.slc false .upto (.var bW) (.var bE)) .nil)) (.cons (.ife (.isn false (.sub (.var ad) (.con (.int 2)))) (.con (.none)) (.sub (.var bW) (.var bE))) .nil))))) .nil)) .nil) (.cons (.iff (.cmp .Eq true (.var aQ) (.con (.str bM))) (.cons (.ret (.call 2 (.cons (.var bW) .nil))) .nil) .nil) (.cons (.iff (.cmp .Eq true (.var aQ) (.con (.str b6))) (.cons (.ret (.tup (.cons (.con (.str b6)) (.cons (.sub (.var ad) (.con (.int 1))) (.cons (.sub (.var bW) (.con (.int 0))) (.cons (.sub (.var bW) (.con (.int 1))) (.cons (.sub (.var bW) (.con (.int 2))) .nil))))))) .nil) .nil) (.cons (.ret (.ife (.cmp .Eq true (.var aQ) (.con (.str be))) (.tup (.cons (.con (.str be)) (.cons (.sub (.var bW) (.con (.int 0))) .nil))) (.var ad))) .nil))))))}
noncomputable def iW:Fn:={params:=[ad,cj],dfl:=[],pur:=true,body:=(.cons (.iff (.cmp .Eq true (.sub (.var ad) (.con (.int 0))) (.con (.str aM))) (.cons (.ret (.bme .get (.var cj) (.cons (.sub (.var ad) (.con (.int 1))) (.cons (.var ad) .nil)))) .nil) .nil) (.cons (.iff (.cmp .Eq true (.sub (.var ad) (.con (.int 0))) (.con (.str b6))) (.cons (.asg lD (.blt .dictCopy false (.cons (.var cj) .nil))) (.cons .rai (.cons (.asg jX (.tup (.cons (.call 5 (.cons (.sub (.var ad) (.con (.int 2))) (.cons (.var cj) .nil))) (.cons (.call 5 (.cons (.sub (.var ad) (.con (.int 3))) (.cons (.var cj) .nil))) .nil)))) (.cons (.ret (.bin .Add false (.bin .Add false (.tup (.cons (.con (.str b6)) (.cons (.sub (.var ad) (.con (.int 1))) .nil))) (.var jX)) (.tup (.cons (.call 5 (.cons (.sub (.var ad) (.con (.int 4))) (.cons (.var lD) .nil))) .nil)))) .nil)))) .nil) (.cons (.asg bW (.call 3 (.cons (.var ad) .nil))) (.cons (.ret (.ife (.emp false true (.var bW)) (.var ad) (.call 4 (.cons (.var ad) (.cons (.cmp1 false (.call 5 (.cons (.var bq) (.cons (.var cj) .nil))) (.one bq) (.var bW) (.con (.bool true))) .nil))))) .nil))))}
noncomputable def oD:T:=(.emp true true (.var bv))
noncomputable def pZ:T:=(.cons (.ret (.var aH)) .nil)
noncomputable def oi:T:=(.cons (.unp [aY,bX] (.bme .pop (.var bv) .nil)) (.cons (.iff (.cmp .Eq true (.sub (.var aY) (.con (.int 0))) (.con (.str aM))) (.cons (.iff (.bl false (.cons (.cmp .NotIn false (.sub (.var aY) (.con (.int 1))) (.var bX)) (.cons (.cmp .NotIn false (.sub (.var aY) (.con (.int 1))) (.var aH)) .nil))) (.cons (.exp (.bme .append (.var aH) (.cons (.sub (.var aY) (.con (.int 1))) .nil))) .nil) .nil) .nil) (.cons (.iff (.cmp .Eq true (.sub (.var aY) (.con (.int 0))) (.con (.str b6))) (.cons (.exp (.bme .append (.var bv) (.cons (.tup (.cons (.sub (.var aY) (.con (.int 4))) (.cons (.bin .Add false (.var bX) (.tup (.cons (.sub (.var aY) (.con (.int 1))) .nil))) .nil))) .nil))) (.cons (.exp (.bme .extend (.var bv) (.cons (.lis false (.cons (.tup (.cons (.sub (.var aY) (.con (.int 3))) (.cons (.var bX) .nil))) (.cons (.tup (.cons (.sub (.var aY) (.con (.int 2))) (.cons (.var bX) .nil))) .nil))) .nil))) .nil)) (.cons (.exp (.bme .extend (.var bv) (.cons (.cmp1 false (.tup (.cons (.var bq) (.cons (.var bX) .nil))) (.one bq) (.slc false .rev (.call 3 (.cons (.var aY) .nil)) (.con .none)) (.con (.bool true))) .nil))) .nil)) .nil)) .nil))
noncomputable def j8:Fn:={params:=[ad],dfl:=[],pur:=true,body:=(.cons (.unp [aH,bv] (.tup (.cons (.lis true .nil) (.cons (.lis true (.cons (.tup (.cons (.var ad) (.cons (.tup .nil) .nil))) .nil)) .nil)))) (.cons (.whl oD oi) pZ))}
noncomputable def iX:Fn:={params:=[ad],dfl:=[],pur:=true,body:=(.cons (.asg kO (.ife (.cmp .Eq true (.sub (.var ad) (.con (.int 3))) (.glo bP (.tup [.str aa,.str ai,.tup []]))) (.sub (.var ad) (.con (.int 1))) (.bin .Add false (.bin .Add false (.sub (.var ad) (.con (.int 1))) (.con (.str jY))) (.call 8 (.cons (.sub (.var ad) (.con (.int 3))) .nil))))) (.cons (.ret (.ife (.cmp .Eq true (.sub (.var ad) (.con (.int 2))) (.glo bO (.tup [.str aB]))) (.var kO) (.bin .Add false (.bin .Add false (.call 8 (.cons (.sub (.var ad) (.con (.int 2))) .nil)) (.con (.str jY))) (.var kO)))) .nil))}
noncomputable def j9:Fn:={params:=[ad],dfl:=[],pur:=true,body:=(.cons (.asg aQ (.sub (.var ad) (.con (.int 0)))) (.cons (.iff (.cmp .Eq true (.var aQ) (.con (.str aa))) (.cons (.asg jZ (.bme .join (.con (.str ba)) (.cons (.cmp1 false (.call 8 (.cons (.var eX) .nil)) (.one eX) (.sub (.var ad) (.con (.int 2))) (.con (.bool true))) .nil))) (.cons (.ret (.bin .Add false (.sub (.var ad) (.con (.int 1))) (.ife (.emp true false (.sub (.var ad) (.con (.int 2)))) (.bin .Add false (.bin .Add false (.con (.str mx)) (.var jZ)) (.con (.str dl))) (.con (.str gY))))) .nil)) .nil) (.cons (.iff (.cmp .Eq true (.var aQ) (.con (.str bd))) (.cons (.asg eJ (.bin .Add false (.cmp1 false (.call 8 (.cons (.var aw) .nil)) (.one aw) (.sub (.var ad) (.con (.int 1))) (.con (.bool true))) (.ife (.isn false (.sub (.var ad) (.con (.int 2)))) (.lis false .nil) (.lis false (.cons (.bin .Add false (.bin .Add false (.con (.str eh)) (.call 8 (.cons (.sub (.var ad) (.con (.int 2))) .nil))) (.con (.str dl))) .nil))))) (.cons (.ret (.bin .Add false (.bin .Add false (.con (.str dz)) (.bme .join (.con (.str ba)) (.cons (.var eJ) .nil))) (.con (.str dl)))) .nil)) .nil) (.cons (.iff (.cmp .Eq true (.var aQ) (.con (.str bM))) (.cons (.ret (.bin .Add false (.bin .Add false (.con (.str eK)) (.bme .join (.con (.str ba)) (.cons (.cmp1 false (.call 8 (.cons (.var aw) .nil)) (.one aw) (.sub (.var ad) (.con (.int 1))) (.con (.bool true))) .nil))) (.con (.str dl)))) .nil) .nil) (.cons (.iff (.cmp .Eq true (.var aQ) (.con (.str b6))) (.cons (.ret (.bin .Add false (.bin .Add false (.call 8 (.cons (.sub (.var ad) (.con (.int 4))) .nil)) (.con (.str iT))) (.call 7 (.cons (.var ad) .nil)))) .nil) .nil) (.cons (.iff (.cmp .Eq true (.var aQ) (.con (.str be))) (.cons (.ret (.bin .Add false (.bin .Add false (.con (.str iq)) (.call 8 (.cons (.sub (.var ad) (.con (.int 1))) .nil))) (.con (.str dl)))) .nil) .nil) (.cons (.iff (.cmp .Eq true (.var aQ) (.con (.str gc))) (.cons (.ret (.bin .Add false (.bin .Add false (.con (.str eL)) (.sub (.var ad) (.con (.int 1)))) (.con (.str my)))) .nil) .nil) (.cons (.iff (.cmp .Eq true (.var aQ) (.con (.str fD))) (.cons (.ret (.blt .str false (.cons (.sub (.var ad) (.con (.int 1))) .nil))) .nil) .nil) (.cons (.ret (.ife (.cmp .Eq true (.var aQ) (.con (.str aM))) (.sub (.var ad) (.con (.int 1))) (.con (.str gN)))) .nil)))))))))}
noncomputable def kf:Fn:={params:=[ah,aR,cD,bh,bH,bn],dfl:=[],pur:=true,body:=(.cons (.ata (.var ah) aR (.var aR)) (.cons (.ata (.var ah) cD (.var cD)) (.cons (.ata (.var ah) bh (.var bh)) (.cons (.ata (.var ah) bH (.var bH)) (.cons (.ata (.var ah) bn (.var bn)) .nil)))))}
noncomputable def fQ:Fn:={params:=[ah,ad],dfl:=[],pur:=true,body:=(.cons (.ret (.call 1000 (.cons (.att (.var ah) aR) (.cons (.att (.var ah) cD) (.cons (.bin .Add false (.att (.var ah) bh) (.tup (.cons (.var ad) .nil))) (.cons (.att (.var ah) bH) (.cons (.att (.var ah) bn) .nil))))))) .nil)}
noncomputable def fR:Fn:={params:=[ah,ad],dfl:=[],pur:=true,body:=(.cons (.ret (.call 1000 (.cons (.att (.var ah) aR) (.cons (.att (.var ah) cD) (.cons (.att (.var ah) bh) (.cons (.bin .Add false (.att (.var ah) bH) (.tup (.cons (.var ad) .nil))) (.cons (.att (.var ah) bn) .nil))))))) .nil)}
noncomputable def jC:Fn:={params:=[ah],dfl:=[],pur:=true,body:=(.cons (.ret (.ife (.emp true false (.att (.var ah) bh)) (.sub (.att (.var ah) bh) (.con (.int 0))) (.glo bO (.tup [.str aB])))) .nil)}
noncomputable def jD:Fn:={params:=[ah],dfl:=[],pur:=true,body:=(.cons (.ret (.ife (.emp true false (.att (.var ah) bH)) (.sub (.att (.var ah) bH) (.con (.int 0))) (.glo bP (.tup [.str aa,.str ai,.tup []])))) .nil)}
noncomputable def jE:Fn:={params:=[ah,aU,bE],dfl:=[.none,.int 0],pur:=false,body:=(.cons (.ata (.var ah) aU (.ife (.isn false (.var aU)) (.dic true .nil) (.var aU))) (.cons (.ata (.var ah) bE (.var bE)) .nil))}
noncomputable def iA:Fn:={params:=[ah],dfl:=[],pur:=false,body:=(.cons (.ret (.call 1001 (.cons (.blt .dictCopy false (.cons (.att (.var ah) aU) .nil)) (.cons (.att (.var ah) bE) .nil)))) .nil)}
noncomputable def iB:Fn:={params:=[ah,ad,aR],dfl:=[],pur:=false,body:=(.cons (.unp [aQ,aa,bI,b7,el] (.var ad)) (.cons (.ata (.var ah) bE (.bin .Add false (.att (.var ah) bE) (.con (.int 1)))) (.cons (.asg eY (.bin .Add false (.bin .Add false (.sub (.bme .split (.var aa) (.cons (.con (.str j0)) .nil)) (.con (.int 0))) (.con (.str j0))) (.blt .str false (.cons (.att (.var ah) bE) .nil)))) (.cons (.asg bh (.ife (.cmp .Eq true (.var bI) (.glo bO (.tup [.str aB]))) (.tup .nil) (.tup (.cons (.var bI) .nil)))) (.cons (.asg bH (.ife (.cmp .Eq true (.var b7) (.glo bP (.tup [.str aa,.str ai,.tup []]))) (.tup .nil) (.tup (.cons (.var b7) .nil)))) (.cons (.asu (.att (.var ah) aU) (.var eY) (.call 1000 (.cons (.var aR) (.cons (.att (.var ah) bE) (.cons (.var bh) (.cons (.var bH) (.cons (.call 24 (.cons (.var el) (.cons (.var aa) .nil))) .nil))))))) (.cons (.ret (.tup (.cons (.var eY) (.cons (.call 5 (.cons (.var el) (.cons (.dic false (.cons (.var aa) (.cons (.tup (.cons (.con (.str aM)) (.cons (.var eY) .nil))) .nil))) .nil))) .nil)))) .nil)))))))}
noncomputable def jF:Fn:={params:=[ah,aa],dfl:=[],pur:=false,body:=(.cons (.ret (.bme .get (.att (.var ah) aU) (.cons (.var aa) (.cons (.call 1000 (.cons (.con (.bool false)) (.cons (.con (.int 0)) (.cons (.tup .nil) (.cons (.tup .nil) (.cons (.con (.bool false)) .nil)))))) .nil)))) .nil)}
noncomputable def gg:Fn:={params:=[ah,ad],dfl:=[],pur:=false,body:=(.cons (.ret (.bl false (.cons (.cmp .Eq true (.sub (.var ad) (.con (.int 0))) (.con (.str aM))) (.cons (.att (.met (.var ah) bf (.cons (.sub (.var ad) (.con (.int 1))) .nil)) aR) .nil)))) .nil)}
noncomputable def fS:Fn:={params:=[ah,aa,ad],dfl:=[],pur:=false,body:=(.cons (.asu (.att (.var ah) aU) (.var aa) (.met (.sub (.att (.var ah) aU) (.var aa)) fK (.cons (.var ad) .nil))) .nil)}
noncomputable def fU:Fn:={params:=[ah,aa,ad],dfl:=[],pur:=false,body:=(.cons (.asu (.att (.var ah) aU) (.var aa) (.met (.sub (.att (.var ah) aU) (.var aa)) fL (.cons (.var ad) .nil))) .nil)}
noncomputable def fu:Fn:={params:=[ah,ad,aa],dfl:=[],pur:=false,body:=(.cons (.asg cD (.att (.met (.var ah) bf (.cons (.var aa) .nil)) cD)) (.cons (.asg aH (.lis true .nil)) (.cons (.fro (.one am) (.call 6 (.cons (.var ad) .nil)) (.cons (.iff (.bl false (.cons (.not (.att (.met (.var ah) bf (.cons (.var am) .nil)) aR)) (.cons (.cmp .Gt false (.att (.met (.var ah) bf (.cons (.var am) .nil)) cD) (.var cD)) .nil))) (.cons (.exp (.bme .append (.var aH) (.cons (.var am) .nil))) .nil) .nil) .nil)) (.cons (.ret (.var aH)) .nil))))}
noncomputable def iY:Fn:={params:=[ad,aa],dfl:=[],pur:=true,body:=(.cons (.asg aQ (.sub (.var ad) (.con (.int 0)))) (.cons (.iff (.cmp .Eq true (.var aQ) (.con (.str aM))) (.cons (.ret (.tup (.cons (.ife (.cmp .Eq false (.sub (.var ad) (.con (.int 1))) (.var aa)) (.con (.int 1)) (.con (.int 0))) (.cons (.con (.bool false)) .nil)))) .nil) .nil) (.cons (.iff (.cmp .Eq true (.var aQ) (.con (.str bM))) (.cons (.asg aU (.cmp1 false (.call 22 (.cons (.var bq) (.cons (.var aa) .nil))) (.one bq) (.sub (.var ad) (.con (.int 1))) (.con (.bool true)))) (.cons (.ret (.tup (.cons (.blt .max false (.cons (.cmp1 false (.sub (.var c9) (.con (.int 0))) (.one c9) (.var aU) (.con (.bool true))) .nil)) (.cons (.cmp .In false (.con (.bool true)) (.cmp1 false (.sub (.var c9) (.con (.int 1))) (.one c9) (.var aU) (.con (.bool true)))) .nil)))) .nil)) .nil) (.cons (.iff (.cmp .Eq true (.var aQ) (.con (.str bd))) (.cons (.asg aU (.cmp1 false (.call 22 (.cons (.var bq) (.cons (.var aa) .nil))) (.one bq) (.sub (.var ad) (.con (.int 1))) (.con (.bool true)))) (.cons (.iff (.isn true (.sub (.var ad) (.con (.int 2)))) (.cons (.asg aU (.bin .Add false (.var aU) (.bin .Mult false (.lis false (.cons (.call 22 (.cons (.sub (.var ad) (.con (.int 2))) (.cons (.var aa) .nil))) .nil)) (.con (.int 2))))) .nil) .nil) (.cons (.ret (.tup (.cons (.blt .min false (.cons (.con (.int 2)) (.cons (.blt .sum false (.cons (.cmp1 false (.sub (.var c9) (.con (.int 0))) (.one c9) (.var aU) (.con (.bool true))) .nil)) .nil))) (.cons (.cmp .In false (.con (.bool true)) (.cmp1 false (.sub (.var c9) (.con (.int 1))) (.one c9) (.var aU) (.con (.bool true)))) .nil)))) .nil))) .nil) (.cons (.iff (.cmp .Eq true (.var aQ) (.con (.str b6))) (.cons (.ret (.ife (.cmp .Eq false (.sub (.var ad) (.con (.int 1))) (.var aa)) (.tup (.cons (.con (.int 0)) (.cons (.con (.bool false)) .nil))) (.call 23 (.cons (.var ad) (.cons (.var aa) .nil))))) .nil) .nil) (.cons (.ret (.tup (.cons (.con (.int 0)) (.cons (.cmp .In false (.var aa) (.call 6 (.cons (.var ad) .nil))) .nil)))) .nil))))))}
noncomputable def e8:Fn:={params:=[ad,aa],dfl:=[],pur:=true,body:=(.cons (.unp [bE,dA] (.call 22 (.cons (.sub (.var ad) (.con (.int 4))) (.cons (.var aa) .nil)))) (.cons (.ret (.tup (.cons (.var bE) (.cons (.bl true (.cons (.var dA) (.cons (.cmp .In false (.var aa) (.call 6 (.cons (.sub (.var ad) (.con (.int 2))) .nil))) (.cons (.cmp .In false (.var aa) (.call 6 (.cons (.sub (.var ad) (.con (.int 3))) .nil))) .nil)))) .nil)))) .nil))}
noncomputable def iZ:Fn:={params:=[el,aa],dfl:=[],pur:=true,body:=(.cons (.unp [bE,dA] (.call 22 (.cons (.var el) (.cons (.var aa) .nil)))) (.cons (.ret (.bl false (.cons (.cmp .Gt true (.var bE) (.con (.int 1))) (.cons (.not (.var dA)) .nil)))) .nil))}
noncomputable def jG:Fn:={params:=[ad],dfl:=[],pur:=true,body:=(.cons (.asg aQ (.sub (.var ad) (.con (.int 0)))) (.cons (.iff (.cmp .Eq true (.var aQ) (.con (.str bM))) (.cons (.asg aH (.cmp2 (.var cZ) (.one bq) (.sub (.var ad) (.con (.int 1))) (.one cZ) (.call 25 (.cons (.var bq) .nil)))) .nil) (.cons (.iff (.bl false (.cons (.cmp .Eq true (.var aQ) (.con (.str b6))) (.cons (.not (.call 24 (.cons (.sub (.var ad) (.con (.int 4))) (.cons (.sub (.var ad) (.con (.int 1))) .nil)))) .nil))) (.cons (.asg aH (.cmp1 false (.tup (.cons (.con (.str b6)) (.cons (.sub (.var ad) (.con (.int 1))) (.cons (.sub (.var ad) (.con (.int 2))) (.cons (.sub (.var ad) (.con (.int 3))) (.cons (.var cZ) .nil)))))) (.one cZ) (.call 25 (.cons (.sub (.var ad) (.con (.int 4))) .nil)) (.con (.bool true)))) .nil) (.cons (.iff (.cmp .Eq true (.var aQ) (.con (.str bd))) (.cons (.asg aH (.call 26 (.cons (.var ad) .nil))) .nil) (.cons (.asg aH (.lis false (.cons (.var ad) .nil))) .nil)) .nil)) .nil)) (.cons (.ret (.ife (.cmp .LtE true (.blt .len false (.cons (.var aH) .nil)) (.glo fM (.int 64))) (.var aH) (.lis false (.cons (.var ad) .nil)))) .nil)))}
noncomputable def qa:T:=(.cons (.asg er (.call 25 (.cons (.var bq) .nil))) (.cons (.iff (.cmp .Gt true (.bin .Mult false (.blt .len false (.cons (.var aU) .nil)) (.blt .len false (.cons (.var er) .nil))) (.glo fM (.int 64))) (.cons (.asg er (.lis false (.cons (.var bq) .nil))) .nil) .nil) (.cons (.asg aU (.cmp2 (.bin .Add false (.var c9) (.tup (.cons (.var cZ) .nil))) (.one c9) (.var aU) (.one cZ) (.var er))) .nil)))
noncomputable def i0:Fn:={params:=[ad],dfl:=[],pur:=true,body:=(.cons (.asg aU (.lis false (.cons (.tup .nil) .nil))) (.cons (.fro (.one bq) (.sub (.var ad) (.con (.int 1))) qa) (.cons (.ret (.cmp1 false (.call 1 (.cons (.var c9) (.cons (.sub (.var ad) (.con (.int 2))) .nil))) (.one c9) (.var aU) (.con (.bool true)))) .nil)))}
noncomputable def k9:Fn:={params:=[ad],dfl:=[],pur:=true,body:=(.cons (.iff (.cmp .Eq true (.sub (.var ad) (.con (.int 0))) (.con (.str bd))) (.cons (.ret (.cmp .In false (.con (.bool true)) (.cmp1 false (.call 27 (.cons (.var bq) .nil)) (.one bq) (.sub (.var ad) (.con (.int 1))) (.con (.bool true))))) .nil) .nil) (.cons (.iff (.cmp .Eq true (.sub (.var ad) (.con (.int 0))) (.con (.str b6))) (.cons (.ret (.call 27 (.cons (.sub (.var ad) (.con (.int 4))) .nil))) .nil) .nil) (.cons (.ret (.cmp .Eq true (.var ad) (.glo bO (.tup [.str aB])))) .nil)))}
noncomputable def lX:Fn:={params:=[ad],dfl:=[],pur:=true,body:=(.cons (.ret (.ife (.bl false (.cons (.isn true (.sub (.var ad) (.con (.int 2)))) (.cons (.call 27 (.cons (.sub (.var ad) (.con (.int 2))) .nil)) .nil))) (.con (.none)) (.sub (.var ad) (.con (.int 2))))) .nil)}
noncomputable def i3:Fn:={params:=[ah,aj,ct],dfl:=[],pur:=false,body:=(.cons (.ata (.var ah) aj (.var aj)) (.cons (.ata (.var ah) ct (.var ct)) .nil))}
noncomputable def py:T:=(.bl false (.cons (.emp true true (.var cp)) (.cons (.cmp .Gt true (.att (.var ah) ct) (.con (.int 0))) .nil)))
noncomputable def pz:T:=(.cons (.unp [bv,aY] (.bme .pop (.var cp) .nil)) (.cons (.asg aH (.met (.var ah) je (.cons (.var bv) (.cons (.var aY) (.cons (.var cp) .nil))))) (.cons (.iff (.isn true (.var aH)) (.cons (.ret (.var aH)) .nil) .nil) .nil)))
noncomputable def jH:Fn:={params:=[ah,et,au],dfl:=[],pur:=false,body:=(.cons (.asg cp (.lis true (.cons (.tup (.cons (.blt .list true (.cons (.var et) .nil)) (.cons (.var au) .nil))) .nil))) (.cons (.whl py pz) (.cons (.ret (.con (.none))) .nil)))}
noncomputable def oE:T:=(.emp true true (.var bv))
noncomputable def qb:T:=(.cons (.exp (.bme .append (.var cp) (.cons (.tup (.cons (.bin .Add true (.var bv) (.var bS)) (.cons (.met (.var au) j1 .nil) .nil))) .nil))) .nil)
noncomputable def o4:T:=(.cons (.fro (.one bS) (.slc false .revTo (.var bF) (.con (.int 0))) qb) (.cons (.exp (.bme .extend (.var bv) (.cons (.sub (.var bF) (.con (.int 0))) .nil))) .nil))
noncomputable def oG:T:=(.cons (.ata (.var ah) ct (.bin .Sub false (.att (.var ah) ct) (.con (.int 1)))) (.cons (.asg bF (.ife (.cmp .GtE true (.att (.var ah) ct) (.con (.int 0))) (.met (.var ah) jw (.cons (.bme .pop (.var bv) .nil) (.cons (.var au) .nil))) (.lis false .nil))) (.cons (.iff (.emp false true (.var bF)) (.cons (.ret (.con (.none))) .nil) .nil) o4)))
noncomputable def gh:Fn:={params:=[ah,bv,au,cp],dfl:=[],pur:=false,body:=(.cons (.whl oE oG) (.cons (.ret (.ife (.met (.var ah) eM (.cons (.var au) .nil)) (.var au) (.con (.none)))) .nil))}
noncomputable def i4:Fn:={params:=[ah,mz,au],dfl:=[],pur:=false,body:=(.cons (.unp [aQ,aw,am] (.var mz)) (.cons (.iff (.cmp .Eq false (.var aw) (.var am)) (.cons (.ret (.lis false (.cons (.lis false .nil) .nil))) .nil) .nil) (.cons (.iff (.cmp .In false (.con (.str fD)) (.tup (.cons (.sub (.var aw) (.con (.int 0))) (.cons (.sub (.var am) (.con (.int 0))) .nil)))) (.cons (.ret (.met (.var ah) jf (.cons (.var aQ) (.cons (.var aw) (.cons (.var am) (.cons (.var au) .nil)))))) .nil) .nil) (.cons (.iff (.cmp .Eq true (.var aQ) (.con (.str dP))) (.cons (.ret (.lis false (.cons (.lis false (.cons (.tup (.cons (.con (.str bU)) (.cons (.var aw) (.cons (.var am) .nil)))) (.cons (.tup (.cons (.con (.str bU)) (.cons (.var am) (.cons (.var aw) .nil)))) .nil))) .nil))) .nil) .nil) (.cons (.iff (.bl true (.cons (.call 27 (.cons (.var aw) .nil)) (.cons (.cmp .Eq true (.var am) (.glo bP (.tup [.str aa,.str ai,.tup []]))) .nil))) (.cons (.ret (.lis false (.cons (.lis false .nil) .nil))) .nil) .nil) (.cons (.iff (.met (.var au) aR (.cons (.var aw) .nil)) (.cons (.ret (.met (.var ah) jx (.cons (.sub (.var aw) (.con (.int 1))) (.cons (.var am) (.cons (.var au) .nil))))) .nil) .nil) (.cons (.iff (.met (.var au) aR (.cons (.var am) .nil)) (.cons (.ret (.met (.var ah) aE (.cons (.sub (.var am) (.con (.int 1))) (.cons (.var aw) (.cons (.var au) .nil))))) .nil) .nil) (.cons (.ret (.met (.var ah) jg (.cons (.var aw) (.cons (.var am) (.cons (.var au) .nil))))) .nil))))))))}
noncomputable def gi:Fn:={params:=[ah,aQ,aw,am,au],dfl:=[],pur:=false,body:=(.cons (.iff (.bl false (.cons (.cmp .Eq true (.var aQ) (.con (.str bU))) (.cons (.cmp .Eq true (.var am) (.glo bP (.tup [.str aa,.str ai,.tup []]))) .nil))) (.cons (.ret (.lis false (.cons (.lis false .nil) .nil))) .nil) .nil) (.cons (.iff (.bl false (.cons (.not (.met (.var au) aR (.cons (.var aw) .nil))) (.cons (.not (.met (.var au) aR (.cons (.var am) .nil))) .nil))) (.cons (.ret (.lis false .nil)) .nil) .nil) (.cons (.iff (.cmp .Eq true (.var aQ) (.con (.str dP))) (.cons (.ret (.lis false (.cons (.lis false (.cons (.tup (.cons (.con (.str bU)) (.cons (.var aw) (.cons (.var am) .nil)))) (.cons (.tup (.cons (.con (.str bU)) (.cons (.var am) (.cons (.var aw) .nil)))) .nil))) .nil))) .nil) .nil) (.cons (.ret (.ife (.met (.var au) aR (.cons (.var aw) .nil)) (.met (.var ah) jx (.cons (.sub (.var aw) (.con (.int 1))) (.cons (.var am) (.cons (.var au) .nil)))) (.met (.var ah) aE (.cons (.sub (.var am) (.con (.int 1))) (.cons (.var aw) (.cons (.var au) .nil)))))) .nil))))}
noncomputable def iC:Fn:={params:=[ah,aa,ad,au],dfl:=[],pur:=false,body:=(.cons (.asg ad (.call 42 (.cons (.var aa) (.cons (.var ad) (.cons (.var au) .nil))))) (.cons (.iff (.bl true (.cons (.isn false (.var ad)) (.cons (.cmp .In false (.var ad) (.att (.met (.var au) bf (.cons (.var aa) .nil)) bH)) .nil))) (.cons (.ret (.ife (.isn false (.var ad)) (.lis false .nil) (.lis false (.cons (.lis false .nil) .nil)))) .nil) .nil) (.cons (.exp (.met (.var au) gB (.cons (.var aa) (.cons (.var ad) .nil)))) (.cons (.ret (.lis false (.cons (.cmp1 false (.tup (.cons (.con (.str bU)) (.cons (.var bI) (.cons (.var ad) .nil)))) (.one bI) (.att (.met (.var au) bf (.cons (.var aa) .nil)) bh) (.con (.bool true))) .nil))) .nil))))}
noncomputable def iE:Fn:={params:=[ah,aa,ad,au],dfl:=[],pur:=false,body:=(.cons (.asg ad (.call 43 (.cons (.var aa) (.cons (.var ad) (.cons (.var au) .nil))))) (.cons (.iff (.bl true (.cons (.isn false (.var ad)) (.cons (.cmp .In false (.var ad) (.att (.met (.var au) bf (.cons (.var aa) .nil)) bh)) .nil))) (.cons (.ret (.ife (.isn false (.var ad)) (.lis false .nil) (.lis false (.cons (.lis false .nil) .nil)))) .nil) .nil) (.cons (.exp (.met (.var au) gC (.cons (.var aa) (.cons (.var ad) .nil)))) (.cons (.ret (.lis false (.cons (.cmp1 false (.tup (.cons (.con (.str bU)) (.cons (.var ad) (.cons (.var b7) .nil)))) (.one b7) (.att (.met (.var au) bf (.cons (.var aa) .nil)) bH) (.con (.bool true))) .nil))) .nil))))}
noncomputable def gk:Fn:={params:=[ah,aw,am,au],dfl:=[],pur:=false,body:=(.cons (.iff (.cmp .Eq true (.sub (.var aw) (.con (.int 0))) (.con (.str bM))) (.cons (.ret (.lis false (.cons (.cmp1 false (.tup (.cons (.con (.str bU)) (.cons (.var bq) (.cons (.var am) .nil)))) (.one bq) (.sub (.var aw) (.con (.int 1))) (.con (.bool true))) .nil))) .nil) .nil) (.cons (.iff (.cmp .Eq true (.sub (.var aw) (.con (.int 0))) (.con (.str b6))) (.cons (.ret (.lis false (.cons (.lis false (.cons (.tup (.cons (.con (.str bU)) (.cons (.sub (.met (.var au) ir (.cons (.var aw) (.cons (.con (.bool false)) .nil))) (.con (.int 1))) (.cons (.var am) .nil)))) .nil)) .nil))) .nil) .nil) (.cons (.iff (.cmp .Eq true (.sub (.var am) (.con (.int 0))) (.con (.str bM))) (.cons (.asg bF (.cmp1 false (.lis false (.cons (.tup (.cons (.con (.str bU)) (.cons (.var aw) (.cons (.var bq) .nil)))) .nil)) (.one bq) (.sub (.var am) (.con (.int 1))) (.con (.bool true)))) (.cons (.ret (.bin .Add false (.var bF) (.ife (.cmp .Eq true (.sub (.var aw) (.con (.int 0))) (.con (.str aM))) (.lis false (.cons (.lis false (.cons (.tup (.cons (.con (.str bU)) (.cons (.met (.met (.var au) bf (.cons (.sub (.var aw) (.con (.int 1))) .nil)) b7 .nil) (.cons (.var am) .nil)))) .nil)) .nil)) (.lis false .nil)))) .nil)) .nil) (.cons (.iff (.cmp .Eq true (.sub (.var am) (.con (.int 0))) (.con (.str b6))) (.cons (.ret (.lis false (.cons (.met (.var ah) j2 (.cons (.var aw) (.cons (.var am) (.cons (.var au) .nil)))) .nil))) .nil) .nil) (.cons (.iff (.cmp .Eq true (.sub (.var aw) (.con (.int 0))) (.con (.str aM))) (.cons (.asg b7 (.met (.met (.var au) bf (.cons (.sub (.var aw) (.con (.int 1))) .nil)) b7 .nil)) (.cons (.asg bF (.ife (.cmp .Eq true (.var b7) (.glo bP (.tup [.str aa,.str ai,.tup []]))) (.lis false .nil) (.lis false (.cons (.lis false (.cons (.tup (.cons (.con (.str bU)) (.cons (.var b7) (.cons (.var am) .nil)))) .nil)) .nil)))) (.cons (.ret (.bin .Add false (.var bF) (.ife (.cmp .Eq true (.sub (.var am) (.con (.int 0))) (.con (.str aM))) (.lis false (.cons (.lis false (.cons (.tup (.cons (.con (.str bU)) (.cons (.var aw) (.cons (.met (.met (.var au) bf (.cons (.sub (.var am) (.con (.int 1))) .nil)) bI .nil) .nil)))) .nil)) .nil)) (.lis false .nil)))) .nil))) .nil) (.cons (.iff (.cmp .Eq true (.sub (.var am) (.con (.int 0))) (.con (.str aM))) (.cons (.asg bI (.met (.met (.var au) bf (.cons (.sub (.var am) (.con (.int 1))) .nil)) bI .nil)) (.cons (.ret (.ife (.cmp .Eq true (.var bI) (.glo bO (.tup [.str aB]))) (.lis false .nil) (.lis false (.cons (.lis false (.cons (.tup (.cons (.con (.str bU)) (.cons (.var aw) (.cons (.var bI) .nil)))) .nil)) .nil)))) .nil)) .nil) (.cons (.ret (.met (.var ah) lF (.cons (.var aw) (.cons (.var am) .nil)))) .nil)))))))}
noncomputable def gP:Fn:={params:=[ah,aw,am,au],dfl:=[],pur:=false,body:=(.cons (.unp [eY,el] (.met (.var au) ir (.cons (.var am) (.cons (.con (.bool true)) .nil)))) (.cons (.asg bf (.met (.var au) bf (.cons (.var eY) .nil))) (.cons (.ret (.bin .Add false (.cmp2 (.tup (.cons (.con (.str bU)) (.cons (.var bI) (.cons (.var b7) .nil)))) (.one bI) (.att (.var bf) bh) (.one b7) (.att (.var bf) bH)) (.lis false (.cons (.tup (.cons (.con (.str bU)) (.cons (.var aw) (.cons (.var el) .nil)))) .nil)))) .nil)))}
noncomputable def iG:Fn:={params:=[ah,aw,am],dfl:=[],pur:=false,body:=(.cons (.asg gZ (.tup (.cons (.sub (.var aw) (.con (.int 0))) (.cons (.sub (.var am) (.con (.int 0))) .nil)))) (.cons (.iff (.cmp .Eq true (.var gZ) (.tup (.cons (.con (.str aa)) (.cons (.con (.str aa)) .nil)))) (.cons (.ret (.met (.var ah) jh (.cons (.var aw) (.cons (.var am) .nil)))) .nil) .nil) (.cons (.iff (.cmp .Eq true (.var gZ) (.tup (.cons (.con (.str bd)) (.cons (.con (.str bd)) .nil)))) (.cons (.ret (.call 45 (.cons (.var aw) (.cons (.var am) .nil)))) .nil) .nil) (.cons (.iff (.cmp .Eq true (.var gZ) (.tup (.cons (.con (.str be)) (.cons (.con (.str be)) .nil)))) (.cons (.ret (.lis false (.cons (.lis false (.cons (.tup (.cons (.con (.str dP)) (.cons (.sub (.var aw) (.con (.int 1))) (.cons (.sub (.var am) (.con (.int 1))) .nil)))) .nil)) .nil))) .nil) .nil) (.cons (.iff (.bl true (.cons (.bl false (.cons (.cmp .Eq true (.sub (.var aw) (.con (.int 0))) (.con (.str be))) (.cons (.cmp .Eq true (.var am) (.glo kP (.tup [.str aa,.str dJ,.tup []]))) .nil))) (.cons (.bl false (.cons (.cmp .Eq true (.sub (.var aw) (.con (.int 0))) (.con (.str gc))) (.cons (.cmp .Eq true (.var am) (.glo iu (.tup [.str aa,.str bV,.tup []]))) .nil))) .nil))) (.cons (.ret (.lis false (.cons (.lis false .nil) .nil))) .nil) .nil) (.cons (.ret (.lis false .nil)) .nil))))))}
noncomputable def nK:T:=(.cons (.iff (.cmp .Eq false (.sub (.var aE) (.con (.int 1))) (.sub (.var am) (.con (.int 1)))) (.cons (.ret (.lis false (.cons (.cmp1 false (.tup (.cons (.con (.str dP)) (.cons (.var eX) (.cons (.var cR) .nil)))) (.many [eX,cR]) (.zip (.sub (.var aE) (.con (.int 2))) (.sub (.var am) (.con (.int 2)))) (.con (.bool true))) .nil))) .nil) .nil) .nil)
noncomputable def gl:Fn:={params:=[ah,aw,am],dfl:=[],pur:=false,body:=(.cons (.fro (.one aE) (.met (.att (.var ah) aj) j3 (.cons (.var aw) .nil)) nK) (.cons (.ret (.lis false .nil)) .nil))}
noncomputable def eF:Fn:={params:=[ah,au],dfl:=[],pur:=false,body:=(.cons (.fro (.one aa) (.blt .keys false (.cons (.att (.var au) aU) .nil)) (.cons (.asg bf (.sub (.att (.var au) aU) (.var aa))) (.cons (.iff (.bl false (.cons (.att (.var bf) aR) (.cons (.att (.var bf) bn) (.cons (.not (.met (.var ah) j4 (.cons (.var bf) (.cons (.var au) .nil)))) .nil)))) (.cons (.ret (.con (.bool false))) .nil) .nil) .nil))) (.cons (.ret (.con (.bool true))) .nil))}
noncomputable def gQ:Fn:={params:=[ah,bf,au],dfl:=[],pur:=false,body:=(.cons (.iff (.cmp .Gt true (.blt .len false (.cons (.cmp1 false (.var ad) (.one ad) (.att (.var bf) bh) (.cmp .NotEq false (.var ad) (.sub (.att (.var bf) bh) (.con (.int 0))))) .nil)) (.con (.int 0))) (.cons (.ret (.con (.bool false))) .nil) .nil) (.cons (.iff (.emp false false (.att (.var bf) bh)) (.cons (.ret (.con (.bool true))) .nil) .nil) (.cons (.asg ad (.sub (.att (.var bf) bh) (.con (.int 0)))) (.cons (.ret (.ife (.cmp .Eq true (.sub (.var ad) (.con (.int 0))) (.con (.str aM))) (.att (.met (.var au) bf (.cons (.sub (.var ad) (.con (.int 1))) .nil)) bn) (.met (.att (.var ah) aj) dR (.cons (.var ad) .nil)))) .nil))))}
noncomputable def lb:Fn:={params:=[aa,ad,au],dfl:=[],pur:=false,body:=(.cons (.asg g6 (.met (.var au) eu (.cons (.var ad) (.cons (.var aa) .nil)))) (.cons (.iff (.emp false true (.var g6)) (.cons (.ret (.ife (.call 44 (.cons (.var aa) (.cons (.var ad) .nil))) (.con (.none)) (.var ad))) .nil) .nil) (.cons (.asg bI (.ife (.cmp .Eq true (.sub (.var ad) (.con (.int 0))) (.con (.str aM))) (.met (.met (.var au) bf (.cons (.sub (.var ad) (.con (.int 1))) .nil)) bI .nil) (.glo bO (.tup [.str aB])))) (.cons (.ret (.ife (.cmp .Eq true (.var bI) (.glo bO (.tup [.str aB]))) (.con (.none)) (.call 42 (.cons (.var aa) (.cons (.var bI) (.cons (.var au) .nil)))))) .nil))))}
noncomputable def lY:Fn:={params:=[aa,ad,au],dfl:=[],pur:=false,body:=(.cons (.asg g6 (.met (.var au) eu (.cons (.var ad) (.cons (.var aa) .nil)))) (.cons (.iff (.emp false true (.var g6)) (.cons (.ret (.ife (.call 44 (.cons (.var aa) (.cons (.var ad) .nil))) (.con (.none)) (.var ad))) .nil) .nil) (.cons (.iff (.cmp .NotEq true (.sub (.var ad) (.con (.int 0))) (.con (.str aM))) (.cons (.ret (.con (.none))) .nil) .nil) (.cons (.ret (.call 43 (.cons (.var aa) (.cons (.met (.met (.var au) bf (.cons (.sub (.var ad) (.con (.int 1))) .nil)) b7 .nil) (.cons (.var au) .nil))))) .nil))))}
noncomputable def jI:Fn:={params:=[aa,ad],dfl:=[],pur:=true,body:=(.cons (.ret (.bl false (.cons (.cmp .NotEq false (.var ad) (.tup (.cons (.con (.str aM)) (.cons (.var aa) .nil)))) (.cons (.cmp .In false (.var aa) (.call 6 (.cons (.var ad) .nil))) .nil)))) .nil)}
noncomputable def qC:T:=(.cmp1 false (.tup (.cons (.con (.str bU)) (.cons (.sub (.var eJ) (.var cI)) (.cons (.ife (.cmp .Lt false (.var cI) (.blt .len false (.cons (.var cR) .nil))) (.sub (.var cR) (.var cI)) (.var fo)) .nil)))) (.one cI) (.rng (.blt .len false (.cons (.var eJ) .nil))) (.con (.bool true)))
noncomputable def jJ:Fn:={params:=[aw,am],dfl:=[],pur:=true,body:=(.cons (.unp [eJ,iv] (.tup (.cons (.sub (.var aw) (.con (.int 1))) (.cons (.call 28 (.cons (.var aw) .nil)) .nil)))) (.cons (.unp [cR,fo] (.tup (.cons (.sub (.var am) (.con (.int 1))) (.cons (.call 28 (.cons (.var am) .nil)) .nil)))) (.cons (.iff (.bl true (.cons (.cmp .Lt false (.blt .len false (.cons (.var eJ) .nil)) (.blt .len false (.cons (.var cR) .nil))) (.cons (.bl false (.cons (.isn false (.var fo)) (.cons (.bl true (.cons (.isn true (.var iv)) (.cons (.cmp .Gt false (.blt .len false (.cons (.var eJ) .nil)) (.blt .len false (.cons (.var cR) .nil))) .nil))) .nil))) .nil))) (.cons (.ret (.lis false .nil)) .nil) .nil) (.cons (.asg et qC) (.cons (.ret (.lis false (.cons (.bin .Add false (.var et) (.ife (.isn false (.var iv)) (.lis false .nil) (.lis false (.cons (.tup (.cons (.con (.str bU)) (.cons (.var iv) (.cons (.var fo) .nil)))) .nil)))) .nil))) .nil)))))}
noncomputable def qc:T:=(.cons (.asg eN (.call 1002 (.cons (.var aj) (.cons (.var ct) .nil)))) (.cons (.iff (.isn false (.met (.var eN) nV (.cons (.lis false (.cons (.tup (.cons (.con (.str bU)) (.cons (.var cZ) (.cons (.var am) .nil)))) .nil)) (.cons (.call 1001 .nil) .nil)))) (.cons (.ret (.con (.bool false))) .nil) .nil) .nil))
noncomputable def jK:Fn:={params:=[aj,aw,am,ct],dfl:=[.int 4000],pur:=true,body:=(.cons (.iff (.cmp .Eq false (.var aw) (.var am)) (.cons (.ret (.con (.bool true))) .nil) .nil) (.cons (.fro (.one cZ) (.call 25 (.cons (.var aw) .nil)) qc) (.cons (.ret (.con (.bool true))) .nil)))}
noncomputable def kg:Fn:={params:=[aj,aw,am],dfl:=[],pur:=true,body:=(.cons (.ret (.bl true (.cons (.cmp .Eq false (.var aw) (.var am)) (.cons (.bl false (.cons (.call 46 (.cons (.var aj) (.cons (.var aw) (.cons (.var am) .nil)))) (.cons (.call 46 (.cons (.var aj) (.cons (.var am) (.cons (.var aw) .nil)))) .nil))) .nil)))) .nil)}
noncomputable def kh:Fn:={params:=[ah,aa,aq,aE,af,ag,ar],dfl:=[.bool false,.tup []],pur:=true,body:=(.cons (.ata (.var ah) aa (.var aa)) (.cons (.ata (.var ah) aq (.blt .list false (.cons (.var aq) .nil))) (.cons (.ata (.var ah) ax (.var aE)) (.cons (.ata (.var ah) af (.var af)) (.cons (.ata (.var ah) ag (.var ag)) (.cons (.ata (.var ah) ar (.blt .list false (.cons (.var ar) .nil))) .nil))))))}
noncomputable def gm:Fn:={params:=[ah,aq],dfl:=[],pur:=true,body:=(.cons (.ret (.blt .dictOf false (.cons (.cmp1 false (.tup (.cons (.sub (.var c9) (.con (.int 0))) (.cons (.var eX) .nil))) (.many [c9,eX]) (.zip (.att (.var ah) aq) (.var aq)) (.con (.bool true))) .nil))) .nil)}
noncomputable def jL:Fn:={params:=[ah],dfl:=[],pur:=false,body:=(.cons (.ata (.var ah) cQ (.dic true (.cons (.con (.str ai)) (.cons (.call 1003 (.cons (.con (.str ai)) (.cons (.lis false .nil) (.cons (.con (.none)) (.cons (.con (.bool true)) .nil))))) .nil)))) .nil)}
noncomputable def gR:Fn:={params:=[ah,cy],dfl:=[],pur:=false,body:=(.cons (.iff (.cmp .In false (.att (.var cy) aa) (.att (.var ah) cQ)) (.cons .rai .nil) .nil) (.cons (.asg aE (.att (.var cy) ax)) (.cons (.iff (.bl true (.cons (.cmp .NotEq true (.sub (.var aE) (.con (.int 0))) (.con (.str aa))) (.cons (.cmp .NotIn false (.sub (.var aE) (.con (.int 1))) (.att (.var ah) cQ)) (.cons (.not (.att (.sub (.att (.var ah) cQ) (.sub (.var aE) (.con (.int 1)))) af)) .nil)))) (.cons .rai .nil) .nil) (.cons (.iff (.bl true (.cons (.cmp .Eq true (.var aE) (.glo kP (.tup [.str aa,.str dJ,.tup []]))) (.cons (.cmp .NotEq false (.blt .len false (.cons (.sub (.var aE) (.con (.int 2))) .nil)) (.blt .len false (.cons (.att (.sub (.att (.var ah) cQ) (.sub (.var aE) (.con (.int 1)))) aq) .nil))) .nil))) (.cons .rai .nil) .nil) (.cons (.asg mA (.cmp1 false (.sub (.var c9) (.con (.int 0))) (.one c9) (.att (.var cy) aq) (.con (.bool true)))) (.cons (.asg jy (.cmp1 false (.var aa) (.one aa) (.call 6 (.cons (.var aE) .nil)) (.cmp .NotIn false (.var aa) (.var mA)))) (.cons (.fro (.many [aa,ad]) (.att (.var cy) ar) (.cons (.asg jy (.bin .Add false (.var jy) (.cmp1 false (.var aw) (.one aw) (.call 6 (.cons (.var ad) .nil)) (.cmp .NotIn false (.var aw) (.var mA))))) .nil)) (.cons (.iff (.bl true (.cons (.emp true true (.var jy)) (.cons (.cmp .NotEq false (.blt .len false (.cons (.blt .dictOf false (.cons (.att (.var cy) ar) .nil)) .nil)) (.blt .len false (.cons (.att (.var cy) ar) .nil))) .nil))) (.cons .rai .nil) .nil) (.cons (.asu (.att (.var ah) cQ) (.att (.var cy) aa) (.var cy)) .nil)))))))))}
noncomputable def jM:Fn:={params:=[ah,aa],dfl:=[],pur:=true,body:=(.cons (.iff (.cmp .NotIn false (.var aa) (.att (.var ah) cQ)) (.cons .rai .nil) .nil) (.cons (.ret (.sub (.att (.var ah) cQ) (.var aa))) .nil))}
noncomputable def gp:Fn:={params:=[ah,ad],dfl:=[],pur:=true,body:=(.cons (.iff (.cmp .Eq true (.sub (.var ad) (.con (.int 0))) (.con (.str be))) (.cons (.ret (.glo kP (.tup [.str aa,.str dJ,.tup []]))) .nil) .nil) (.cons (.iff (.cmp .Eq true (.sub (.var ad) (.con (.int 0))) (.con (.str gc))) (.cons (.ret (.glo iu (.tup [.str aa,.str bV,.tup []]))) .nil) .nil) (.cons (.iff (.bl true (.cons (.cmp .NotEq true (.sub (.var ad) (.con (.int 0))) (.con (.str aa))) (.cons (.cmp .Eq true (.var ad) (.glo bP (.tup [.str aa,.str ai,.tup []]))) .nil))) (.cons (.ret (.glo bP (.tup [.str aa,.str ai,.tup []]))) .nil) .nil) (.cons (.asg cy (.met (.var ah) cy (.cons (.sub (.var ad) (.con (.int 1))) .nil))) (.cons (.ret (.call 5 (.cons (.att (.var cy) ax) (.cons (.met (.var cy) gF (.cons (.sub (.var ad) (.con (.int 2))) .nil)) .nil)))) .nil)))))}
noncomputable def iH:Fn:={params:=[ah,ad],dfl:=[],pur:=true,body:=(.cons (.asg aH (.lis true (.cons (.var ad) .nil))) (.cons (.whl (.cmp .NotEq true (.sub (.var aH) (.con (.int (-1)))) (.glo bP (.tup [.str aa,.str ai,.tup []]))) (.cons (.exp (.bme .append (.var aH) (.cons (.met (.var ah) iw (.cons (.sub (.var aH) (.con (.int (-1)))) .nil)) .nil))) .nil)) (.cons (.ret (.var aH)) .nil)))}
noncomputable def e9:Fn:={params:=[ah,ad],dfl:=[],pur:=true,body:=(.cons (.iff (.cmp .Eq true (.sub (.var ad) (.con (.int 0))) (.con (.str bd))) (.cons (.ret (.bl false (.cons (.isn false (.sub (.var ad) (.con (.int 2)))) (.cons (.cmp .NotIn false (.con (.bool false)) (.cmp1 false (.met (.var ah) dR (.cons (.var bq) .nil)) (.one bq) (.sub (.var ad) (.con (.int 1))) (.con (.bool true)))) .nil)))) .nil) .nil) (.cons (.iff (.cmp .Eq true (.sub (.var ad) (.con (.int 0))) (.con (.str aa))) (.cons (.ret (.bl false (.cons (.not (.att (.met (.var ah) cy (.cons (.sub (.var ad) (.con (.int 1))) .nil)) af)) (.cons (.emp false true (.call 6 (.cons (.var ad) .nil))) .nil)))) .nil) .nil) (.cons (.ret (.bl true (.cons (.cmp .Eq true (.sub (.var ad) (.con (.int 0))) (.con (.str gc))) (.cons (.bl false (.cons (.cmp .Eq true (.sub (.var ad) (.con (.int 0))) (.con (.str be))) (.cons (.emp false true (.call 6 (.cons (.var ad) .nil))) .nil))) .nil)))) .nil)))}
noncomputable def lZ:Fn:={params:=[aj,aa,aE,af],dfl:=[.bool false],pur:=false,body:=(.cons (.exp (.met (.var aj) bt (.cons (.call 1003 (.cons (.var aa) (.cons (.lis false .nil) (.cons (.var aE) (.cons (.var af) .nil))))) .nil))) .nil)}
noncomputable def i5:Fn:={params:=[],dfl:=[],pur:=true,body:=(.cons (.asg aj (.call 1004 .nil)) (.cons (.fro (.one aa) (.tup (.cons (.con (.str dJ)) (.cons (.con (.str bV)) (.cons (.con (.str bA)) (.cons (.con (.str cg)) (.cons (.con (.str ay)) (.cons (.con (.str aP)) .nil))))))) (.cons (.exp (.call 56 (.cons (.var aj) (.cons (.var aa) (.cons (.glo bP (.tup [.str aa,.str ai,.tup []])) (.cons (.con (.bool true)) .nil)))))) .nil)) (.cons (.exp (.call 56 (.cons (.var aj) (.cons (.con (.str bk)) (.cons (.call 0 (.cons (.con (.str bA)) .nil)) (.cons (.con (.bool true)) .nil)))))) (.cons (.exp (.call 56 (.cons (.var aj) (.cons (.con (.str av)) (.cons (.call 0 (.cons (.con (.str bk)) .nil)) (.cons (.con (.bool true)) .nil)))))) (.cons (.exp (.call 56 (.cons (.var aj) (.cons (.con (.str aO)) (.cons (.call 0 (.cons (.con (.str av)) .nil)) (.cons (.con (.bool true)) .nil)))))) (.cons (.exp (.call 56 (.cons (.var aj) (.cons (.con (.str ch)) (.cons (.call 0 (.cons (.con (.str av)) .nil)) (.cons (.con (.bool true)) .nil)))))) (.cons (.fro (.one aa) (.glo mB (.tup [.str kM,.str jt,.str ju,.str aG,.str ik])) (.cons (.exp (.call 56 (.cons (.var aj) (.cons (.var aa) (.cons (.call 0 (.cons (.con (.str aO)) .nil)) .nil))))) .nil)) (.cons (.fro (.one aa) (.glo kQ (.tup [.str jv,.str im,.str io,.str ip])) (.cons (.exp (.call 56 (.cons (.var aj) (.cons (.var aa) (.cons (.call 0 (.cons (.con (.str ch)) .nil)) .nil))))) .nil)) (.cons (.fro (.many [aa,aE]) (.tup (.cons (.tup (.cons (.con (.str cz)) (.cons (.con (.str av)) .nil))) (.cons (.tup (.cons (.con (.str kW)) (.cons (.con (.str cg)) .nil))) (.cons (.tup (.cons (.con (.str aA)) (.cons (.con (.str ay)) .nil))) .nil)))) (.cons (.exp (.call 56 (.cons (.var aj) (.cons (.var aa) (.cons (.call 0 (.cons (.var aE) .nil)) .nil))))) .nil)) (.cons (.exp (.call 56 (.cons (.var aj) (.cons (.con (.str eO)) (.cons (.glo bP (.tup [.str aa,.str ai,.tup []])) .nil))))) (.cons (.exp (.call 56 (.cons (.var aj) (.cons (.con (.str gf)) (.cons (.glo bP (.tup [.str aa,.str ai,.tup []])) .nil))))) (.cons (.exp (.met (.var aj) bt (.cons (.call 1003 (.cons (.con (.str kX)) (.cons (.lis false .nil) (.cons (.glo bP (.tup [.str aa,.str ai,.tup []])) (.cons (.con (.bool false)) (.cons (.con (.bool true)) (.cons (.lis false (.cons (.tup (.cons (.con (.str mC)) (.cons (.call 0 (.cons (.con (.str eO)) .nil)) .nil))) (.cons (.tup (.cons (.con (.str ix)) (.cons (.glo bP (.tup [.str aa,.str ai,.tup []])) .nil))) .nil))) .nil))))))) .nil))) (.cons (.exp (.call 58 (.cons (.var aj) .nil))) (.cons (.exp (.call 59 (.cons (.var aj) .nil))) (.cons (.ret (.var aj)) .nil)))))))))))))))}
noncomputable def iI:Fn:={params:=[aj],dfl:=[],pur:=false,body:=(.cons (.asg aE (.call 0 (.cons (.con (.str aP)) .nil))) (.cons (.fro (.one aa) (.glo iy (.tup [.str dM,.str dk,.str eI,.str cf])) (.cons (.exp (.call 56 (.cons (.var aj) (.cons (.var aa) (.cons (.var aE) .nil))))) .nil)) (.cons (.fro (.one aa) (.glo iU (.tup [.str cW,.str cX,.str cq,.str cK])) (.cons (.exp (.met (.var aj) bt (.cons (.call 1003 (.cons (.var aa) (.cons (.lis false .nil) (.cons (.var aE) (.cons (.con (.bool false)) (.cons (.con (.bool false)) (.cons (.lis false (.cons (.tup (.cons (.con (.str j5)) (.cons (.glo bP (.tup [.str aa,.str ai,.tup []])) .nil))) .nil)) .nil))))))) .nil))) .nil)) (.cons (.fro (.one aa) (.glo iV (.tup [.str dN,.str cL])) (.cons (.exp (.met (.var aj) bt (.cons (.call 1003 (.cons (.var aa) (.cons (.lis false .nil) (.cons (.var aE) (.cons (.con (.bool false)) (.cons (.con (.bool false)) (.cons (.lis false (.cons (.tup (.cons (.con (.str mW)) (.cons (.glo bP (.tup [.str aa,.str ai,.tup []])) .nil))) (.cons (.tup (.cons (.con (.str ix)) (.cons (.glo bP (.tup [.str aa,.str ai,.tup []])) .nil))) .nil))) .nil))))))) .nil))) .nil)) (.cons (.exp (.met (.var aj) bt (.cons (.call 1003 (.cons (.con (.str c5)) (.cons (.lis false .nil) (.cons (.var aE) (.cons (.con (.bool false)) (.cons (.con (.bool false)) (.cons (.lis false (.cons (.tup (.cons (.con (.str aM)) (.cons (.glo bP (.tup [.str aa,.str ai,.tup []])) .nil))) .nil)) .nil))))))) .nil))) (.cons (.exp (.met (.var aj) bt (.cons (.call 1003 (.cons (.con (.str dW)) (.cons (.lis false .nil) (.cons (.var aE) (.cons (.con (.bool false)) (.cons (.con (.bool false)) (.cons (.lis false (.cons (.tup (.cons (.con (.str qz)) (.cons (.glo bP (.tup [.str aa,.str ai,.tup []])) .nil))) (.cons (.tup (.cons (.con (.str qA)) (.cons (.glo bP (.tup [.str aa,.str ai,.tup []])) .nil))) .nil))) .nil))))))) .nil))) .nil))))))}
noncomputable def jN:Fn:={params:=[aj],dfl:=[],pur:=false,body:=(.cons (.asg fp (.lis false (.cons (.tup (.cons (.con (.str a9)) (.cons (.glo bO (.tup [.str aB])) (.cons (.glo bP (.tup [.str aa,.str ai,.tup []])) .nil)))) (.cons (.tup (.cons (.con (.str ev)) (.cons (.glo bO (.tup [.str aB])) (.cons (.glo bP (.tup [.str aa,.str ai,.tup []])) .nil)))) .nil)))) (.cons (.unp [c6,mD] (.tup (.cons (.tup (.cons (.con (.str aM)) (.cons (.con (.str a9)) .nil))) (.cons (.tup (.cons (.con (.str aM)) (.cons (.con (.str ev)) .nil))) .nil)))) (.cons (.exp (.met (.var aj) bt (.cons (.call 1003 (.cons (.con (.str aD)) (.cons (.var fp) (.cons (.glo bP (.tup [.str aa,.str ai,.tup []])) (.cons (.con (.bool true)) .nil))))) .nil))) (.cons (.fro (.one aa) (.tup (.cons (.con (.str bg)) (.cons (.con (.str fq)) .nil))) (.cons (.exp (.met (.var aj) bt (.cons (.call 1003 (.cons (.var aa) (.cons (.var fp) (.cons (.call 0 (.cons (.con (.str aD)) (.cons (.tup (.cons (.var c6) (.cons (.var mD) .nil))) .nil))) (.cons (.con (.bool false)) (.cons (.con (.bool true)) .nil)))))) .nil))) .nil)) (.cons (.asg aw (.lis false (.cons (.tup (.cons (.con (.str a9)) (.cons (.glo bO (.tup [.str aB])) (.cons (.glo bP (.tup [.str aa,.str ai,.tup []])) .nil)))) .nil))) (.cons (.exp (.met (.var aj) bt (.cons (.call 1003 (.cons (.con (.str bG)) (.cons (.var aw) (.cons (.call 0 (.cons (.con (.str aD)) (.cons (.tup (.cons (.var c6) (.cons (.tup (.cons (.con (.str fD)) (.cons (.con (.int 1)) .nil))) .nil))) .nil))) (.cons (.con (.bool true)) .nil))))) .nil))) (.cons (.asg aE (.call 0 (.cons (.con (.str bG)) (.cons (.tup (.cons (.var c6) .nil)) .nil)))) (.cons (.exp (.met (.var aj) bt (.cons (.call 1003 (.cons (.con (.str eP)) (.cons (.var aw) (.cons (.var aE) (.cons (.con (.bool false)) (.cons (.con (.bool false)) (.cons (.lis false (.cons (.tup (.cons (.con (.str g7)) (.cons (.var c6) .nil))) (.cons (.tup (.cons (.con (.str jz)) (.cons (.var c6) .nil))) .nil))) .nil))))))) .nil))) (.cons (.exp (.met (.var aj) bt (.cons (.call 1003 (.cons (.con (.str eR)) (.cons (.var aw) (.cons (.var aE) (.cons (.con (.bool false)) (.cons (.con (.bool false)) (.cons (.lis false (.cons (.tup (.cons (.con (.str g7)) (.cons (.var c6) .nil))) (.cons (.tup (.cons (.con (.str jw)) (.cons (.var c6) .nil))) (.cons (.tup (.cons (.con (.str jz)) (.cons (.var c6) .nil))) .nil)))) .nil))))))) .nil))) (.cons (.exp (.met (.var aj) bt (.cons (.call 1003 (.cons (.con (.str gG)) (.cons (.var aw) (.cons (.glo bP (.tup [.str aa,.str ai,.tup []])) (.cons (.con (.bool false)) (.cons (.con (.bool true)) (.cons (.lis false (.cons (.tup (.cons (.con (.str qB)) (.cons (.var c6) .nil))) .nil)) .nil))))))) .nil))) (.cons (.asg lG (.lis false (.cons (.tup (.cons (.con (.str a9)) (.cons (.glo bO (.tup [.str aB])) (.cons (.call 0 (.cons (.con (.str av)) .nil)) .nil)))) .nil))) (.cons (.exp (.met (.var aj) bt (.cons (.call 1003 (.cons (.con (.str ft)) (.cons (.var lG) (.cons (.call 0 (.cons (.con (.str bk)) .nil)) (.cons (.con (.bool false)) (.cons (.con (.bool false)) (.cons (.lis false (.cons (.tup (.cons (.con (.str nW)) (.cons (.var c6) .nil))) (.cons (.tup (.cons (.con (.str nX)) (.cons (.var c6) .nil))) .nil))) .nil))))))) .nil))) .nil))))))))))))}
noncomputable def qD:T:=(.cons (.asg jA (.ife (.cmp .GtE true (.var fO) (.con (.int 0))) (.var fO) (.bin .Sub false (.con (.int 2)) (.var fO)))) (.cons (.ret (.lis true (.cons (.ife (.cmp .GtE false (.var jA) (.bin .Pow false (.con (.int 10)) (.con (.int 18)))) (.var jA) (.con (.int 0))) (.cons (.bin .Add false (.bin .Mod false (.var jA) (.con (.int 1000000007))) (.con (.int 101))) .nil)))) .nil))
noncomputable def l0:Fn:={params:=[cG],dfl:=[],pur:=false,body:=(.cons (.asg fO (.ife (.emp true true (.var cG)) (.blt .int false (.cons (.sub (.var cG) (.con (.int 0))) .nil)) (.con (.int 1)))) qD)}
noncomputable def l3:Fn:={params:=[aW,lI],dfl:=[],pur:=false,body:=(.cons (.iff (.cmp .Gt true (.sub (.var aW) (.con (.int 0))) (.con (.int 0))) (.cons (.asg lH (.bin .Mod false (.sub (.var aW) (.con (.int 0))) (.var lI))) (.cons (.asu (.var aW) (.con (.int 0)) (.bin .FloorDiv false (.sub (.var aW) (.con (.int 0))) (.var lI))) (.cons (.ret (.var lH)) .nil))) .nil) (.cons (.asu (.var aW) (.con (.int 1)) (.bin .Mod false (.bin .Add false (.bin .Mult false (.sub (.var aW) (.con (.int 1))) (.con (.int 69621))) (.con (.int 12011))) (.con (.int 2147483647)))) (.cons (.ret (.bin .Mod false (.bin .FloorDiv false (.sub (.var aW) (.con (.int 1))) (.con (.int 17))) (.var lI))) .nil)))}
noncomputable def ld:Fn:={params:=[aW],dfl:=[],pur:=false,body:=(.cons (.ret (.tup (.cons (.con (.str aa)) (.cons (.sub (.lis false (.cons (.con (.str aG)) (.cons (.con (.str cz)) (.cons (.con (.str av)) (.cons (.con (.str bk)) (.cons (.con (.str aA)) (.cons (.con (.str aO)) .nil))))))) (.call 61 (.cons (.var aW) (.cons (.con (.int 6)) .nil)))) (.cons (.tup .nil) .nil))))) .nil)}
noncomputable def cS:Fn:={params:=[aW,dm],dfl:=[],pur:=false,body:=(.cons (.asg bS (.ife (.cmp .Gt true (.var dm) (.con (.int 0))) (.call 61 (.cons (.var aW) (.cons (.con (.int 10)) .nil))) (.con (.int 0)))) (.cons (.iff (.cmp .Lt true (.var bS) (.con (.int 3))) (.cons (.ret (.call 62 (.cons (.var aW) .nil))) .nil) .nil) (.cons (.iff (.cmp .Eq true (.var bS) (.con (.int 3))) (.cons (.ret (.tup (.cons (.con (.str gc)) (.cons (.sub (.lis false (.cons (.con (.str mW)) (.cons (.con (.str oh)) .nil))) (.call 61 (.cons (.var aW) (.cons (.con (.int 2)) .nil)))) .nil)))) .nil) .nil) (.cons (.iff (.cmp .Eq true (.var bS) (.con (.int 4))) (.cons (.ret (.tup (.cons (.con (.str be)) (.cons (.call 62 (.cons (.var aW) .nil)) .nil)))) .nil) .nil) (.cons (.iff (.cmp .Eq true (.var bS) (.con (.int 5))) (.cons (.ret (.tup (.cons (.con (.str aa)) (.cons (.con (.str bg)) (.cons (.tup (.cons (.call 63 (.cons (.var aW) (.cons (.con (.int 0)) .nil))) (.cons (.tup (.cons (.con (.str fD)) (.cons (.bin .Add false (.con (.int 1)) (.call 61 (.cons (.var aW) (.cons (.con (.int 2)) .nil)))) .nil))) .nil))) .nil))))) .nil) .nil) (.cons (.iff (.cmp .Eq true (.var bS) (.con (.int 6))) (.cons (.ret (.call 2 (.cons (.lis false (.cons (.call 63 (.cons (.var aW) (.cons (.bin .Sub false (.var dm) (.con (.int 1))) .nil))) (.cons (.call 63 (.cons (.var aW) (.cons (.bin .Sub false (.var dm) (.con (.int 1))) .nil))) .nil))) .nil))) .nil) .nil) (.cons (.asg bW (.cmp1 false (.call 63 (.cons (.var aW) (.cons (.bin .Sub false (.var dm) (.con (.int 1))) .nil))) (.one kY) (.rng (.call 61 (.cons (.var aW) (.cons (.con (.int 3)) .nil)))) (.con (.bool true)))) (.cons (.ret (.call 1 (.cons (.var bW) (.cons (.ife (.cmp .Eq true (.var bS) (.con (.int 9))) (.call 62 (.cons (.var aW) .nil)) (.con (.none))) .nil)))) .nil))))))))}
noncomputable def lg:Fn:={params:=[aW],dfl:=[],pur:=false,body:=(.cons (.asg aH (.cmp1 true (.call 63 (.cons (.var aW) (.cons (.con (.int 2)) .nil))) (.one kY) (.rng (.con (.int 4))) (.con (.bool true)))) (.cons (.iff (.cmp .Eq true (.call 61 (.cons (.var aW) (.cons (.con (.int 2)) .nil))) (.con (.int 0))) (.cons (.asg aM (.tup (.cons (.con (.str aM)) (.cons (.con (.str jB)) .nil)))) (.cons (.asg el (.lis false (.cons (.call 1 (.cons (.lis false (.cons (.var aM) .nil)) .nil)) (.cons (.call 1 (.cons (.lis false (.cons (.var aM) (.cons (.var aM) .nil))) .nil)) (.cons (.tup (.cons (.con (.str aa)) (.cons (.con (.str bg)) (.cons (.tup (.cons (.var aM) (.cons (.tup (.cons (.con (.str fD)) (.cons (.con (.int 1)) .nil))) .nil))) .nil)))) (.cons (.call 1 (.cons (.lis false (.cons (.var aM) (.cons (.tup (.cons (.con (.str aa)) (.cons (.con (.str bg)) (.cons (.tup (.cons (.var aM) (.cons (.tup (.cons (.con (.str fD)) (.cons (.con (.int 1)) .nil))) .nil))) .nil)))) .nil))) .nil)) .nil)))))) (.cons (.asu (.var aH) (.con (.int 3)) (.tup (.cons (.con (.str b6)) (.cons (.con (.str jB)) (.cons (.tup (.cons (.con (.str aB)) .nil)) (.cons (.call 62 (.cons (.var aW) .nil)) (.cons (.sub (.var el) (.call 61 (.cons (.var aW) (.cons (.con (.int 4)) .nil)))) .nil))))))) .nil))) .nil) (.cons (.ret (.var aH)) .nil)))}
noncomputable def qd:T:=(.cons (.ret (.call 2 (.cons (.lis false (.cons (.var ad) (.cons (.call 63 (.cons (.var aW) (.cons (.con (.int 1)) .nil))) .nil))) .nil))) .nil)
noncomputable def qe (R:T):T:=(.cons (.asg aE (.dic false (.cons (.con (.str aG)) (.cons (.con (.str aO)) (.cons (.con (.str aO)) (.cons (.con (.str av)) (.cons (.con (.str cz)) (.cons (.con (.str av)) (.cons (.con (.str av)) (.cons (.con (.str bk)) (.cons (.con (.str aA)) (.cons (.con (.str ay)) .nil)))))))))))) (.cons (.iff (.bl false (.cons (.cmp .Eq true (.var bS) (.con (.int 0))) (.cons (.cmp .Eq true (.sub (.var ad) (.con (.int 0))) (.con (.str aa))) (.cons (.cmp .In false (.sub (.var ad) (.con (.int 1))) (.var aE)) .nil)))) (.cons (.ret (.tup (.cons (.con (.str aa)) (.cons (.sub (.var aE) (.sub (.var ad) (.con (.int 1)))) (.cons (.tup .nil) .nil))))) .nil) .nil) (.cons (.iff (.bl false (.cons (.cmp .Eq true (.var bS) (.con (.int 1))) (.cons (.cmp .Eq true (.sub (.var ad) (.con (.int 0))) (.con (.str bd))) (.cons (.isn false (.sub (.var ad) (.con (.int 2)))) .nil)))) (.cons (.ret (.call 1 (.cons (.sub (.var ad) (.con (.int 1))) (.cons (.call 62 (.cons (.var aW) .nil)) .nil)))) .nil) .nil) (.cons (.iff (.bl false (.cons (.cmp .Eq true (.var bS) (.con (.int 2))) (.cons (.cmp .Eq true (.sub (.var ad) (.con (.int 0))) (.con (.str bd))) (.cons (.emp true false (.sub (.var ad) (.con (.int 1)))) .nil)))) (.cons (.asg cI (.call 61 (.cons (.var aW) (.cons (.blt .len false (.cons (.sub (.var ad) (.con (.int 1))) .nil)) .nil)))) (.cons (.ret (.tup (.cons (.con (.str bd)) (.cons (.bin .Add false (.bin .Add false (.slc false .upto (.sub (.var ad) (.con (.int 1))) (.var cI)) (.tup (.cons (.call 65 (.cons (.var aW) (.cons (.sub (.sub (.var ad) (.con (.int 1))) (.var cI)) .nil))) .nil))) (.slc false .from_ (.sub (.var ad) (.con (.int 1))) (.bin .Add false (.var cI) (.con (.int 1))))) (.cons (.sub (.var ad) (.con (.int 2))) .nil))))) .nil)) .nil) R))))
noncomputable def fV:Fn:={params:=[aW,ad],dfl:=[],pur:=false,body:=(.cons (.asg bS (.call 61 (.cons (.var aW) (.cons (.con (.int 4)) .nil)))) (qe qd))}
noncomputable def fW:Fn:={params:=[aW,aj,ad],dfl:=[],pur:=false,body:=(.cons (.asg fP (.lis true (.cons (.var ad) .nil))) (.cons (.fro (.one kY) (.rng (.con (.int 3))) (.cons (.exp (.bme .append (.var fP) (.cons (.call 65 (.cons (.var aW) (.cons (.sub (.var fP) (.con (.int (-1)))) .nil))) .nil))) .nil)) (.cons (.fro (.one cI) (.rng (.con (.int 4))) (.cons (.iff (.cmp .In false (.con (.bool false)) (.cmp1 false (.call 46 (.cons (.var aj) (.cons (.sub (.var fP) (.var cI)) (.cons (.var am) .nil)))) (.one am) (.slc false .from_ (.var fP) (.var cI)) (.con (.bool true)))) (.cons (.ret (.con (.bool false))) .nil) .nil) .nil)) (.cons (.ret (.con (.bool true))) .nil))))}
noncomputable def gq:Fn:={params:=[aj,aw,am,db],dfl:=[],pur:=true,body:=(.cons (.unp [g8,j6] (.tup (.cons (.call 46 (.cons (.var aj) (.cons (.var aw) (.cons (.var db) .nil)))) (.cons (.call 46 (.cons (.var aj) (.cons (.var am) (.cons (.var db) .nil)))) .nil)))) (.cons (.asg kZ (.call 2 (.cons (.lis false (.cons (.var aw) (.cons (.var am) .nil))) .nil))) (.cons (.iff (.bl true (.cons (.cmp .NotEq false (.call 46 (.cons (.var aj) (.cons (.var kZ) (.cons (.var db) .nil)))) (.bl false (.cons (.var g8) (.cons (.var j6) .nil)))) (.cons (.not (.call 46 (.cons (.var aj) (.cons (.var aw) (.cons (.var kZ) .nil))))) .nil))) (.cons (.ret (.con (.bool false))) .nil) .nil) (.cons (.iff (.cmp .NotEq false (.call 47 (.cons (.var aj) (.cons (.var aw) (.cons (.var db) .nil)))) (.bl false (.cons (.var g8) (.cons (.call 46 (.cons (.var aj) (.cons (.var db) (.cons (.var aw) .nil)))) .nil)))) (.cons (.ret (.con (.bool false))) .nil) .nil) (.cons (.ret (.cmp .Eq false (.call 46 (.cons (.var aj) (.cons (.call 1 (.cons (.lis false (.cons (.var aw) (.cons (.var db) .nil))) .nil)) (.cons (.call 1 (.cons (.lis false (.cons (.var db) (.cons (.var db) .nil))) .nil)) .nil)))) (.var g8))) .nil)))))}
noncomputable def pA:T:=(.cons (.ret (.bl false (.cons (.call 67 (.cons (.var aj) (.cons (.sub (.var cA) (.con (.int 0))) (.cons (.sub (.var cA) (.con (.int 1))) (.cons (.sub (.var cA) (.con (.int 2))) .nil))))) (.cons (.call 66 (.cons (.var aW) (.cons (.var aj) (.cons (.sub (.var cA) (.con (.int 0))) .nil)))) .nil)))) .nil)
noncomputable def o5:T:=(.cons (.iff (.bl false (.cons (.sub (.sub (.var cj) (.var cI)) (.var cM)) (.cons (.emp true true (.cmp1 false (.var pt) (.one pt) (.rng (.con (.int 4))) (.bl false (.cons (.sub (.sub (.var cj) (.var cM)) (.var pt)) (.cons (.not (.sub (.sub (.var cj) (.var cI)) (.var pt))) .nil))))) .nil))) (.cons (.ret (.con (.bool false))) .nil) .nil) .nil)
noncomputable def o6:T:=(.cons (.fro (.one cI) (.rng (.con (.int 4))) (.cons (.fro (.one cM) (.rng (.con (.int 4))) o5) .nil)) pA)
noncomputable def gH:Fn:={params:=[cG],dfl:=[],pur:=false,body:=(.cons (.unp [aW,aj] (.tup (.cons (.call 60 (.cons (.var cG) .nil)) (.cons (.call 57 .nil) .nil)))) (.cons (.asg bX (.call 2 (.cons (.lis false (.cons (.tup (.cons (.con (.str aa)) (.cons (.con (.str aG)) (.cons (.tup .nil) .nil)))) (.cons (.tup (.cons (.con (.str aa)) (.cons (.con (.str aA)) (.cons (.tup .nil) .nil)))) .nil))) .nil))) (.cons (.asg eZ (.tup (.cons (.con (.str b6)) (.cons (.con (.str e7)) (.cons (.tup (.cons (.con (.str aB)) .nil)) (.cons (.var bX) (.cons (.tup (.cons (.con (.str aa)) (.cons (.con (.str gG)) (.cons (.tup (.cons (.tup (.cons (.con (.str aM)) (.cons (.con (.str e7)) .nil))) .nil)) .nil)))) .nil))))))) (.cons (.asg g9 (.tup (.cons (.con (.str b6)) (.cons (.con (.str hG)) (.cons (.tup (.cons (.con (.str aB)) .nil)) (.cons (.tup (.cons (.con (.str aa)) (.cons (.con (.str av)) (.cons (.tup .nil) .nil)))) (.cons (.tup (.cons (.con (.str aa)) (.cons (.con (.str gG)) (.cons (.tup (.cons (.tup (.cons (.con (.str aM)) (.cons (.con (.str hG)) .nil))) .nil)) .nil)))) .nil))))))) (.cons (.iff (.bl true (.cons (.call 46 (.cons (.var aj) (.cons (.var eZ) (.cons (.var g9) .nil)))) (.cons (.not (.call 46 (.cons (.var aj) (.cons (.var eZ) (.cons (.var eZ) .nil))))) .nil))) (.cons (.ret (.con (.bool false))) .nil) .nil) (.cons (.asg cA (.call 64 (.cons (.var aW) .nil))) (.cons (.fro (.one ad) (.var cA) (.cons (.iff (.bl true (.cons (.not (.call 46 (.cons (.var aj) (.cons (.var ad) (.cons (.var ad) .nil))))) (.cons (.not (.call 46 (.cons (.var aj) (.cons (.tup (.cons (.con (.str aB)) .nil)) (.cons (.var ad) .nil))))) (.cons (.not (.call 46 (.cons (.var aj) (.cons (.var ad) (.cons (.tup (.cons (.con (.str aa)) (.cons (.con (.str ai)) (.cons (.tup .nil) .nil)))) .nil))))) .nil)))) (.cons (.ret (.con (.bool false))) .nil) .nil) .nil)) (.cons (.asg cj (.cmp1 false (.cmp1 false (.call 46 (.cons (.var aj) (.cons (.var aw) (.cons (.var am) .nil)))) (.one am) (.var cA) (.con (.bool true))) (.one aw) (.var cA) (.con (.bool true)))) o6))))))))}
noncomputable def mE:List Fn:=[nJ,k6,k8,gO,iz,iW,j8,iX,j9,kf,fQ,fR,jC,jD,jE,iA,iB,jF,gg,fS,fU,fu,iY,e8,iZ,jG,i0,k9,lX,i3,jH,gh,i4,gi,iC,iE,gk,gP,iG,gl,eF,gQ,lb,lY,jI,jJ,jK,kg,kh,gm,jL,gR,jM,gp,iH,e9,lZ,i5,iI,jN,l0,l3,ld,cS,lg,fV,fW,gq,gH]
noncomputable def oj:List Addr:=[33,41,48,55,62,67,72,79,84,98,105,112,119,126,148,155,162,169,176,183,190,197,209,216,223,228,233,238,245,263,270,277,284,291,296,301,306,311,318,323,330,335,349,356,363,368,376,383,437,442,475,480,494,501,508,541,556,563,570,577,584,591,598,603,608,615,620,627,632]
noncomputable def mG:List Cl:=[⟨9,true⟩,⟨14,false⟩,⟨29,false⟩,⟨48,true⟩,⟨50,false⟩]
noncomputable def om:List Addr:=[129,200,338,457,544]
noncomputable def hJ:List (Nat×Nat×Nat):=[(0,fK,10),(0,fL,11),(0,bI,12),(0,b7,13),(1,j1,15),(1,ir,16),(1,bf,17),(1,aR,18),(1,gC,19),(1,gB,20),(1,eu,21),(2,nV,30),(2,je,31),(2,jw,32),(2,jf,33),(2,jx,34),(2,aE,35),(2,jg,36),(2,j2,37),(2,lF,38),(2,jh,39),(2,eM,40),(2,j4,41),(3,gF,49),(4,bt,51),(4,cy,52),(4,iw,53),(4,j3,54),(4,dR,55)]
noncomputable def jO:List (Nat×Nat):=[(0,aR),(0,cD),(0,bh),(0,bH),(0,bn),(1,aU),(1,bE),(2,aj),(2,ct),(3,aa),(3,aq),(3,ax),(3,af),(3,ag),(3,ar),(4,cQ)]
noncomputable def an:Prg:={
 tab:={meth:=fun c x=>(hJ.find? fun p=>p.1==c&&p.2.1==x).map (·.2.2),attr:=fun c x=>jO.any fun p=>p.1==c&&p.2==x}
 fn:=fun i=>mE[i]?
 cl:=fun i=>mG[i]?}
end Mine
end
section
open PySem PySem.W PyProof.Rows
namespace Mine
section
local macro_rules | `(tactic| o_head $_)=>`(tactic| assumption)
set_option maxRecDepth 100000 in
set_option maxHeartbeats 8000000 in
theorem pre (h:PySem.Challenge.rw_pq0708_01.row.Holds):PySem.Challenge.rw_pq0708_01.row.Holds:=by
 k_head
end
end Mine
end
section
namespace Mine
open PySem PySem.W PySem.Calls PyProof.Rows PySem.Spec
noncomputable def bZ (prog:Program)(w:World):Cx:={prog:=prog,w:=w,K:=Mine.pre.heap_1 w.params,P:=an,fa:=fun i=>oj.getD i 0,ca:=fun i=>om.getD i 0}
def kj (P:Nat→Fn→Prop):Nat→List Fn→Prop
 | _,[]=>True
 | i,x::r=>P i x∧kj P (i+1) r
theorem eq_695 {P:Nat→Fn→Prop}{l:List Fn}:∀ {i j:Nat}{x:Fn},kj P i l→l[j]?=some x→P (i+j) x:=by
 induction l with
 | nil=>intro i j x _ h;simp at h
 | cons y r ih=>
  intro i j x ha h
  cases j with
  | zero=>cases h;exact ha.1
  | succ j=>exact Nat.succ_add_eq_add_succ i j▸ih (i:=i+1) ha.2 h
noncomputable def qf {P:Nat→Fn→Prop}(k:∀ i x,Dc (P i x))(l:List Fn):∀ i,Dc (kj P i l):=List.rec (motive:=fun l=>∀ i,Dc (kj P i l)) (fun J=>.yes trivial) (fun x r ih i=>(k i x).bi fun h=>(ih (i+1)).bi fun h'=>.yes ⟨h,h'⟩) l
section
variable (prog:Program)(w:World){Φ:b9}{d:Nat}(C:Ctx (bZ prog w) Φ d)
include C
noncomputable abbrev nY (n:Nat):Dc (kj (lV (bZ prog w) Φ d) n ((mE.drop n).take 10)):=qf (qT C) _ n
theorem eq_696:(nY prog w C 0).ok=true:=by kernel_rfl
theorem eq_697:(nY prog w C 10).ok=true:=by kernel_rfl
theorem eq_698:(nY prog w C 20).ok=true:=by kernel_rfl
theorem eq_699:(nY prog w C 30).ok=true:=by kernel_rfl
theorem eq_700:(nY prog w C 40).ok=true:=by kernel_rfl
theorem eq_701:(nY prog w C 50).ok=true:=by kernel_rfl
theorem eq_702:(nY prog w C 60).ok=true:=by kernel_rfl
theorem eq_703 {f:Nat}{fn:Fn}(h:mE[f]?=some fn):lV (bZ prog w) Φ d f fn:=by
 have get:∀ n,(nY prog w C n).ok=true→∀ j,j<10→f=n+j→lV (bZ prog w) Φ d f fn:=fun n k j hj e=>by
  subst e
  exact eq_695 (Dc.get k) (by rw[List.getElem?_take_of_lt hj,List.getElem?_drop];exact h)
 have hf:f<69:=(List.getElem?_eq_some_iff.mp h).1
 have hd:f=10*(f / 10)+f % 10:=(Nat.div_add_mod f 10).symm
 have hm:=Nat.mod_lt f (show 0<10 by decide)
 have hq:f / 10<7:=Nat.div_lt_of_lt_mul (Nat.lt_of_lt_of_le hf (by decide))
 revert hd hm hq
 generalize f / 10=q
 generalize f % 10=j
 intro hd hm hq
 match q with
 | 0=>exact get 0 (eq_696 prog w C) j hm hd
 | 1=>exact get 10 (eq_697 prog w C) j hm hd
 | 2=>exact get 20 (eq_698 prog w C) j hm hd
 | 3=>exact get 30 (eq_699 prog w C) j hm hd
 | 4=>exact get 40 (eq_700 prog w C) j hm hd
 | 5=>exact get 50 (eq_701 prog w C) j hm hd
 | 6=>exact get 60 (eq_702 prog w C) j hm hd
 | q+7=>exact absurd hq (Nat.not_lt.mpr (Nat.le_add_left 7 q))
end
noncomputable def mH (K:Frag)(C:Addr)(n:Str):Bool:=(plainGet K C n&&(hasDictIn K C&&plainOver K C))&&((match findIn K (.ref C) n with
 | some a=>noGet K a
 | none=>false)&&((match findIn K (.ref C) "__setattr__" with
 | some (some (.builtin s))=>s == "object.__setattr__"
 | _=>false)&&(match takerIn K C n with
 | some none=>true
 | _=>false)))
set_option tactic.hygienic true in
theorem eq_704 {K:Frag}{C:Addr}{n:Str}(h:mH K C n=true):AttrOk K C n:=by
 simp only[mH,Bool.and_eq_true] at h
 obtain⟨⟨h1,h2,h3⟩,h4,h5,h6⟩:=h
 refine⟨h1,h2,?_,?_,h3,?_⟩
 ·split at h4
  ·exact⟨_,by assumption,h4⟩
  ·cases h4
 ·split at h5
  ·rename_i s hs;rw[hs,eq_of_beq h5]
  ·cases h5
 ·split at h6
  ·assumption
  ·cases h6
noncomputable def mI (K:Frag)(C f:Addr)(n:Str):Bool:=plainGet K C n&&((match findIn K (.ref C) n with
 | some (some (.ref g))=>g==f
 | _=>false)&&((typeIn K (.ref f)==some (.type "function"))&&keepIn K (.ref f)))
set_option tactic.hygienic true in
theorem eq_705 {K:Frag}{C f:Addr}{n:Str}(h:mI K C f n=true):MethOk K C f n:=by
 simp only[mI,Bool.and_eq_true,beq_iff_eq] at h
 obtain⟨h1,h2,h3,h4⟩:=h
 refine⟨h1,?_,h3,h4⟩
 split at h2
 ·rename_i g hg;rw[hg,eq_of_beq h2]
 ·cases h2
noncomputable def nL (K:Frag)(C f:Addr):Bool:=makesIn K C&&((match findIn K (.ref C) "__init__" with
 | some (some (.ref g))=>g==f
 | _=>false)&&keepIn K (.ref C))
set_option tactic.hygienic true in
theorem eq_706 {cx:Cx}{c f:Nat}(h:nL cx.K (cx.ca c) (cx.fa f)=true):ClsAt cx c f:=by
 simp only[nL,Bool.and_eq_true] at h
 obtain⟨h1,h2,h3⟩:=h
 refine⟨h1,?_,h3⟩
 split at h2
 ·rename_i g hg;rw[hg,eq_of_beq h2]
 ·cases h2
section
variable (prog:Program)(w:World)
theorem eq_707:(jO.all fun p=>bc p.2&&mH (bZ prog w).K ((bZ prog w).ca p.1) (aJ p.2))=true:=by kernel_rfl
theorem eq_342:(hJ.all fun p=>(bc p.2.1&&Nat.blt p.2.2 1000)&&mI (bZ prog w).K ((bZ prog w).ca p.1) ((bZ prog w).fa p.2.2) (aJ p.2.1))=true:=by kernel_rfl
theorem eq_708:TabOk (bZ prog w) where
 attr:=fun c x h=>by
  have h:(jO.any fun p=>p.1==c&&p.2==x)=true:=h
  obtain⟨p,hp,e⟩:=List.any_eq_true.mp h
  simp only[Bool.and_eq_true,beq_iff_eq] at e
  obtain⟨rfl,rfl⟩:=e
  have:=(List.all_eq_true.mp (eq_707 prog w)) p hp
  simp only[Bool.and_eq_true] at this
  exact⟨this.1,eq_704 this.2⟩
 meth:=fun c x f h=>by
  have h:(hJ.find? fun p=>p.1==c&&p.2.1==x).map (·.2.2)=some f:=h
  obtain⟨p,hp,e⟩:=Option.map_eq_some_iff.mp h
  have hm:=List.mem_of_find?_eq_some hp
  have hq:=List.find?_some hp
  simp only[Bool.and_eq_true,beq_iff_eq] at hq
  obtain⟨rfl,rfl⟩:=hq
  have:=(List.all_eq_true.mp (eq_342 prog w)) p hm
  simp only[Bool.and_eq_true] at this
  subst e
  exact⟨this.1.1,eq_705 this.2⟩
theorem eq_709:∀ c x f,(bZ prog w).P.tab.meth c x=some f→f<1000:=fun c x f h=>by
 have h:(hJ.find? fun p=>p.1==c&&p.2.1==x).map (·.2.2)=some f:=h
 obtain⟨p,hp,e⟩:=Option.map_eq_some_iff.mp h
 have hm:=List.mem_of_find?_eq_some hp
 have:=(List.all_eq_true.mp (eq_342 prog w)) p hm
 simp only[Bool.and_eq_true] at this
 subst e
 exact Nat.le_of_ble_eq_true this.1.2
noncomputable def lJ (prog:Program)(w:World):Nat→List Cl→Bool
 | _,[]=>true
 | i,c::r=>(Nat.blt c.init 1000&&nL (bZ prog w).K ((bZ prog w).ca i) ((bZ prog w).fa c.init))&&lJ prog w (i+1) r
theorem eq_343:∀ {l:List Cl}{i j:Nat}{c:Cl},lJ prog w i l=true→l[j]?=some c→c.init<1000∧nL (bZ prog w).K ((bZ prog w).ca (i+j)) ((bZ prog w).fa c.init)=true
 | [],_,_,_,_,h=>by simp at h
 | x::r,i,j,c,ha,h=>by
  simp only[lJ,Bool.and_eq_true] at ha
  cases j with
  | zero=>simp at h;subst h;exact⟨Nat.le_of_ble_eq_true ha.1.1,ha.1.2⟩
  | succ j=>
   have:=eq_343 (l:=r) (i:=i+1) (j:=j) ha.2 (by simpa using h)
   rw[show i+1+j=i+(j+1) by lia] at this
   exact this
theorem eq_710:lJ prog w 0 mG=true:=by kernel_rfl
theorem eq_344:PrgOk (bZ prog w) where
 fns:=fun Φ d C f fn J h=>eq_703 prog w C h
 cls:=fun c cl h=>by
  have h:mG[c]?=some cl:=h
  have:=eq_343 prog w (eq_710 prog w) h
  rw[Nat.zero_add] at this
  exact⟨this.1,eq_706 this.2⟩
 tab:=eq_708 prog w
 lt:=eq_709 prog w
theorem eq_711 (d:Nat):fH (bZ prog w) (ae an d) d:=eq_694 (eq_344 prog w) d
end
end Mine
end
section
set_option genSizeOf false
set_option genInjectivity false
namespace Mine
open PySem
theorem rg {n f:Nat}{fn:Fn}{args:List PV}{σ:ak}{K:KP}(hf:Nat.blt f 1000=true)(h:an.fn f=some fn)(r:jq an.tab (ae an n) fn args σ K):ae an (n+1) f args σ K:=by
 unfold ae
 rw[hf,cond_true,h]
 exact r
theorem rJ {Φ:b9}{fn:Fn}{args:List PV}{σ:ak}{K:KP}(hp:fn.pur=true)(hn:PV.noRefs args=true)(r:eD an.tab Φ fn args [] fun v σ'=>bQ (nC 4 σ' v) fun w=>K w σ):jq an.tab Φ fn args σ K:=by
 unfold jq
 rw[hp]
 dsimp only
 rw[hn]
 exact r
theorem rk {Φ:b9}{fn:Fn}{args:List PV}{σ:ak}{K:KP}(hp:fn.pur=false)(r:eD an.tab Φ fn args σ K):jq an.tab Φ fn args σ K:=by
 unfold jq
 rw[hp]
 exact r
theorem rc {α:Type}{o:Option α}{k:α→Prop}{x:α}(h:o=some x)(r:k x):bQ o k:=by rw[h];exact r
theorem s8 {o:Option Cell}{k:List PV→Prop}{xs:List PV}(h:o=some (.list xs))(r:k xs):pd o k:=by rw[h];exact r
theorem rF {b:Bool}{X Y:Prop}(h:b=true)(r:X):cond b X Y:=by rw[h];exact r
theorem sr {b:Bool}{X Y:Prop}(h:b=false)(r:Y):cond b X Y:=by rw[h];exact r
theorem eq_6 {Φ:b9}{fn:Fn}{args:List PV}{σ:ak}{K:KP}{ρ:aN}(h:mo fn args=some ρ)(r:bu an.tab Φ fn.body ρ σ fun r J σ=>K (kH r) σ):eD an.tab Φ fn args σ K:=by
 unfold eD
 rw[h]
 exact r
inductive Kd where
 | bot
 | nam (n:Nat)
 | num (i:Nat)
 | fn (n:Nat)
 | typ (n:Nat)
 | arr (n i:Nat)
 | tup (ks:List Kd)(r:Option Nat)
 | uni (ks:List Kd)
 | var
 | arv
 | all (u:Fin 4) (b:Nat)
noncomputable def bJ (n:Nat):D:=.tup [.str aa,.str n,.tup []]
noncomputable def vD (v:Nat):D:=.tup [.str aM,.str v]
noncomputable def oo (e:D) (i:Nat):D:=.tup [.str aa,.str bg,.tup [e,.tup [.str fD,.int i]]]
noncomputable def mX:Option Nat→D
 | none=>.none
 | some n=>bJ n
noncomputable def v7:Nat:=jB
noncomputable abbrev fx:Nat:=967140969286598883530506324
noncomputable def gI (v:Nat):Fin 4→D
 | 0=>.tup [.str bd,.tup [vD v],.none]
 | 1=>.tup [.str bd,.tup [vD v,vD v],.none]
 | 2=>oo (vD v) 1
 | 3=>.tup [.str bd,.tup [vD v,oo (vD v) 1],.none]
noncomputable def l4:D:=.tup [.str aB]
mutual
noncomputable def kD:Kd→D
 | .bot=>l4
 | .nam n=>bJ n
 | .num i=>.tup [.str fD,.int i]
 | .fn n=>.tup [.str gc,.str n]
 | .typ n=>.tup [.str be,bJ n]
 | .arr n i=>oo (bJ n) i
 | .tup ks r=>.tup [.str bd,.tup (kDs ks),mX r]
 | .uni ks=>.tup [.str bM,.tup (kDs ks)]
 | .var=>vD fx
 | .arv=>oo (vD fx) 1
 | .all u b=>.tup [.str b6,.str v7,l4,bJ b,gI v7 u]
noncomputable def kDs:List Kd→List D
 | []=>[]
 | k::ks=>kD k::kDs ks
end
theorem eq_25 (ks:List Kd):kDs ks=ks.map kD:=by
 induction ks with
 | nil=>rfl
 | cons k ks ih=>rw[List.map_cons,← ih];rfl
mutual
noncomputable def Kd.dep:Kd→Nat
 | .tup ks _=>Kd.deps ks+1
 | .uni ks=>Kd.deps ks+1
 | .all _ _=>4
 | _=>1
noncomputable def Kd.deps:List Kd→Nat
 | []=>0
 | k::ks=>Nat.max (Kd.dep k) (Kd.deps ks)
end
theorem su {ks:List Kd}{k:Kd}(h:k∈ks):k.dep≤Kd.deps ks:=by
 induction ks with
 | nil=>cases h
 | cons x ks ih=>
  rcases mem_cons.mp h with rfl | h
  ·exact Nat.le_max_left _ _
  ·exact Nat.le_trans (ih h) (Nat.le_max_right _ _)
mutual
noncomputable def Kd.wid:Kd→Nat
 | .tup ks _=>Nat.max ks.length (Kd.wids ks)
 | .uni ks=>Nat.max ks.length (Kd.wids ks)
 | _=>0
noncomputable def Kd.wids:List Kd→Nat
 | []=>0
 | k::ks=>Nat.max (Kd.wid k) (Kd.wids ks)
end
theorem eq_182 {ks:List Kd}{k:Kd}(h:k∈ks):k.wid≤Kd.wids ks:=by
 induction ks with
 | nil=>cases h
 | cons x ks ih=>
  rcases mem_cons.mp h with rfl | h
  ·exact Nat.le_max_left _ _
  ·exact Nat.le_trans (ih h) (Nat.le_max_right _ _)
theorem s9 {ks:List Kd}:(kDs ks).length=ks.length:=by rw[eq_25,length_map]
theorem eq_183 {ks:List Kd}(h:ks.length≤300):(List.map PV.p (kDs ks)).length.ble 100000=true:=by
 rw[length_map,s9]
 exact Nat.ble_eq_true_of_le (by exact u1 h rfl)
theorem eq_184 {n:Nat}{d:D}:∀ {m:Nat},D.sha n d=true→n≤m→D.sha m d=true:=by
 induction n generalizing d with
 | zero=>intro m h;cases d<;>exact ff h
 | succ n ih=>
  intro m h hm
  cases m with
  | zero=>exact absurd hm (Nat.not_succ_le_zero n)
  | succ m=>
   have ihs:∀ xs:List D,D.shas n xs=true→D.shas m xs=true:=fun xs=>by
    induction xs with
    | nil=>exact fun J=>rfl
    | cons x xs ihx=>exact fun h=>have h:=aT h;Bool.and_eq_true_iff.mpr ⟨ih h.1 (Nat.le_of_succ_le_succ hm),ihx h.2⟩
   cases d with
   | tup xs=>exact ihs xs h
   | lst xs=>exact ihs xs h
   | _=>rfl
theorem eq_712 {xs:List D}{n m:Nat}(h:D.shas n xs=true)(hm:n≤m):D.shas m xs=true:=by
 induction xs with
 | nil=>rfl
 | cons x xs ih=>have h:=aT h;exact Bool.and_eq_true_iff.mpr ⟨eq_184 h.1 hm,ih h.2⟩
theorem eq_345 {n w:Nat}{xs:List D}{r:List D}(h:D.shas (n+8) xs=true)(hr:D.shas (n+9) r=true):D.sha (n+10) (.tup (.str w::.tup xs::r))=true:=Bool.and_eq_true_iff.mpr ⟨h,hr⟩
theorem eq_713 (k:Kd):D.sha (2*k.dep+8) (kD k)=true:=by
 refine Kd.rec (motive_1:=fun k=>D.sha (2*k.dep+8) (kD k)=true) (motive_2:=fun ks=>D.shas (2*Kd.deps ks+8) (kDs ks)=true) rfl (fun J=>rfl) (fun J=>rfl) (fun J=>rfl) (fun J=>rfl) (fun J J=>rfl) (fun ks r h=>?_) (fun ks h=>?_) rfl rfl (fun u b=>?_) rfl (fun k ks h hs=>?_) k
 ·exact eq_345 (n:=2*Kd.deps ks) h (by cases r<;>rfl)
 ·exact eq_345 (n:=2*Kd.deps ks) h rfl
 ·show (D.sha 15 (gI v7 u)&&true)=true
  revert u;decide +kernel
 ·exact Bool.and_eq_true_iff.mpr ⟨eq_184 h (Nat.add_le_add_right (Nat.mul_le_mul_left 2 (Nat.le_max_left _ _)) 8),eq_712 hs (Nat.add_le_add_right (Nat.mul_le_mul_left 2 (Nat.le_max_right _ _)) 8)⟩
theorem r6 {k:Kd}(h:k.dep≤20):D.sha 60 (kD k)=true:=eq_184 (eq_713 k) (by exact re (Nat.mul_le_mul_left 2 h) (by simp +arith only))
theorem eq_56 (d:D):D.eqv d d=true:=
 D.rec (motive_1:=fun d=>D.eqv d d=true) (motive_2:=fun d=>D.eqvs d d=true) rfl (fun b=>by cases b<;>rfl) (fun i=>beq_self_eq_true i) (fun n=>beq_self_eq_true n) (fun J h=>h) (fun J h=>h) rfl (fun J J h hs=>Bool.and_eq_true_iff.mpr ⟨h,hs⟩) d
noncomputable def l5:D→Bool:=D.rec (motive_1:=fun J=>Bool) (motive_2:=fun J=>Bool) true (fun J=>false) (fun J=>true) (fun J=>true) (fun J b=>b) (fun J b=>b) true fun J J a b=>a&&b
theorem eq_714 (x:D):∀ y,l5 x=true→l5 y=true→D.eqv x y=true→x=y:=
 D.rec (motive_1:=fun x=>∀ y,l5 x=true→l5 y=true→D.eqv x y=true→x=y) (motive_2:=fun xs=>∀ ys,l5 (.tup xs)=true→l5 (.tup ys)=true→D.eqvs xs ys=true→xs=ys)
  (fun y J J h=>by cases y<;>first | rfl | exact ff h) (fun J J h=>Bool.noConfusion h)
  (fun i y J k h=>by cases y with
   | int j=>exact congrArg D.int (eq_of_beq h)
   | bool b=>exact ff k
   | _=>exact ff h)
  (fun i y J k h=>by cases y with
   | str j=>exact congrArg D.str (eq_of_beq h)
   | _=>exact ff h)
  (fun xs ih y a b h=>by cases y with
   | tup ys=>exact congrArg D.tup (ih ys a b h)
   | _=>exact ff h)
  (fun xs ih y a b h=>by cases y with
   | lst ys=>exact congrArg D.lst (ih ys a b h)
   | _=>exact ff h)
  (fun ys J J h=>by cases ys<;>first | rfl | exact ff h)
  (fun x xs ih ihs ys a b h=>by cases ys with
   | nil=>exact ff h
   | cons y ys=>
    have a:=aT a
    have b:=aT b
    have h:=aT h
    rw[ih y a.1 b.1 h.1,ihs ys a.2 b.2 h.2]) x
theorem eq_346 (k:Kd):l5 (kD k)=true:=
 Kd.rec (motive_1:=fun k=>l5 (kD k)=true) (motive_2:=fun ks=>l5 (.tup (kDs ks))=true) rfl (fun J=>rfl) (fun J=>rfl) (fun J=>rfl) (fun J=>rfl) (fun J J=>rfl) (fun ks r h=>(show (l5 (.tup (kDs ks))&&(l5 (mX r)&&true))=true by rw[h];cases r<;>rfl)) (fun ks h=>(show (l5 (.tup (kDs ks))&&true)=true by rw[h];rfl))
  rfl rfl (fun u b=>(show ∀ u,l5 (kD (.all u 0))=true by decide +kernel) u) rfl (fun J J h hs=>Bool.and_eq_true_iff.mpr ⟨h,hs⟩) k
theorem eq_347 {m n:Nat}(h:D.eqv (bJ m) (bJ n)=true):m=n:=eq_of_beq (aT (show ((m==n)&&true)=true from(aT (show ((aa==aa)&&((m==n)&&true))=true from h)).2)).1
noncomputable def it:D→List D
 | .tup xs=>xs
 | _=>[]
noncomputable def fi (i:Nat)(d:D):D:=(it d).getD i .none
noncomputable def sN:D→Nat
 | .str n=>n
 | _=>0
noncomputable def iN:D→Int
 | .int n=>n
 | _=>0
noncomputable def Kd.hdN:Kd→Nat
 | .bot=>aB | .nam _=>aa | .num _=>fD | .fn _=>gc | .typ _=>be | .arr _ _=>aa | .tup _ _=>bd | .uni _=>bM | .var=>aM | .arv=>aa | .all _ _=>b6
theorem eq_57 (a:Kd):∃ r,kD a=.tup (.str a.hdN::r):=by cases a<;>exact⟨_,rfl⟩
noncomputable def bT (d:D):Fin 4:=bif sN (fi 0 d)==aa then 2 else bif (it (fi 1 d)).length==1 then 0 else bif (it (fi 1 (fi 1 d))).length==3 then 3 else 1
theorem eq_715:∀ u:Fin 4,bT (gI v7 u)=u:=by decide +kernel
noncomputable def qE (d:D):Option Nat:=bif (it d).length==0 then none else some (sN (fi 1 d))
noncomputable def kU (d:D)(l:List (Kd×List Kd)):Kd:=bif sN (fi 0 d)==aB then .bot else bif sN (fi 0 d)==fD then .num (iN (fi 1 d)).toNat else bif sN (fi 0 d)==gc then .fn (sN (fi 1 d)) else bif sN (fi 0 d)==be then .typ (sN (fi 1 (fi 1 d))) else
 bif sN (fi 0 d)==bd then .tup (l.getD 1 (.bot,[])).2 (qE (fi 2 d)) else bif sN (fi 0 d)==bM then .uni (l.getD 1 (.bot,[])).2 else bif sN (fi 0 d)==aM then .var else bif sN (fi 0 d)==b6 then .all (bT (fi 4 d)) (sN (fi 1 (fi 3 d))) else
 bif (it (fi 2 d)).length==0 then .nam (sN (fi 1 d)) else bif sN (fi 0 (fi 0 (fi 2 d)))==aM then .arv else .arr (sN (fi 1 (fi 0 (fi 2 d)))) (iN (fi 1 (fi 1 (fi 2 d)))).toNat
noncomputable def dU (d:D):Kd×List Kd:=D.rec (motive_1:=fun J=>Kd×List Kd) (motive_2:=fun J=>List (Kd×List Kd)) (.bot,[]) (fun J=>(.bot,[])) (fun J=>(.bot,[])) (fun J=>(.bot,[])) (fun xs l=>(kU (.tup xs) l,l.map Prod.fst)) (fun J J=>(.bot,[])) [] (fun J J a l=>a::l) d
theorem eq_348 (k:Kd):(dU (kD k)).1=k:=
 Kd.rec (motive_1:=fun k=>(dU (kD k)).1=k) (motive_2:=fun ks=>(dU (.tup (kDs ks))).2=ks) rfl (fun J=>rfl) (fun J=>rfl) (fun J=>rfl) (fun J=>rfl) (fun J J=>rfl) (fun ks r h=>show Kd.tup (dU (.tup (kDs ks))).2 (qE (mX r))=_ by rw[h];cases r<;>rfl) (fun ks h=>show Kd.uni (dU (.tup (kDs ks))).2=_ by rw[h])
  rfl rfl (fun u b=>show Kd.all (bT (gI v7 u)) b=_ by rw[eq_715]) rfl (fun k ks h hs=>show (dU (kD k)).1::(dU (.tup (kDs ks))).2=_ by rw[h,hs]) k
theorem eq_716 (a b:Kd)(h:kD a=kD b):a=b:=(eq_348 a).symm.trans ((congrArg (fun d=>(dU d).1) h).trans (eq_348 b))
theorem eq_185 {a b:Kd}:D.eqv (kD a) (kD b)=true↔a=b:=⟨fun h=>eq_716 a b (eq_714 _ _ (eq_346 a) (eq_346 b) h),fun e=>e▸eq_56 _⟩
noncomputable instance:DecidableEq Kd:=fun a b=>decidable_of_iff _ eq_185
theorem rU {a b:Kd}:D.eqv (kD a) (kD b)=decide (a=b):=by
 cases q:D.eqv (kD a) (kD b) with
 | true=>exact(decide_eq_true (eq_185.mp q)).symm
 | false=>exact(decide_eq_false fun h=>ff (q.symm.trans (eq_185.mpr h))).symm
noncomputable def iJ:Nat→T→T
 | 0,t=>t
 | n+1,.cons _ t=>iJ n t
 | _,t=>t
noncomputable def lK:Nat→T→List T
 | n+1,.cons h t=>h::lK n t
 | _,_=>[]
noncomputable def mY:List T→T→T
 | [],u=>u
 | s::ss,u=>.cons s (mY ss u)
theorem eq_349 {Φ:b9}{u:T}:∀ {ss:List T}{ρ:aN}{σ:ak}{K:KR},bu an.tab Φ (mY ss .nil) ρ σ (fun r ρ σ=>match r with
  | .next=>bu an.tab Φ u ρ σ K
  | .ret v=>K (.ret v) ρ σ)→bu an.tab Φ (mY ss u) ρ σ K:=by
 intro ss
 have key:∀ (ss:List T)(ρ:aN)(σ:ak)(K:KR),bu an.tab Φ (mY ss u) ρ σ K=bu an.tab Φ (mY ss .nil) ρ σ (fun r ρ σ=>match r with
  | .next=>bu an.tab Φ u ρ σ K
  | .ret v=>K (.ret v) ρ σ):=by
  intro ss
  induction ss with
  | nil=>intro ρ σ K;rfl
  | cons s ss ih=>
   intro ρ σ K
   show bu an.tab Φ s ρ σ (fun r ρ σ=>match r with
    | .next=>bu an.tab Φ (mY ss u) ρ σ K
    | .ret v=>K (.ret v) ρ σ)=bu an.tab Φ s ρ σ (fun r ρ σ=>match r with
    | .next=>bu an.tab Φ (mY ss .nil) ρ σ (fun r ρ σ=>match r with
     | .next=>bu an.tab Φ u ρ σ K
     | .ret v=>K (.ret v) ρ σ)
    | .ret v=>K (.ret v) ρ σ)
   congr 1
   funext r ρ σ
   cases r with
   | next=>exact ih ρ σ K
   | ret v=>rfl
 intro ρ σ K h
 rw[key]
 exact h
theorem eq_186 {t:aN→ak→(Bool→ak→Prop)→Prop}{F:aN→ak→(Res→aN→ak→Prop)→Prop}{k:Nat}{ρ ρ1:aN}{σ σ1:ak}{K:KR}(ht:∀ G:Bool→ak→Prop,G true σ→t ρ σ G)(hF:∀ K2:Res→aN→ak→Prop,K2 .next ρ1 σ1→F ρ σ K2)(h:bj t F k ρ1 σ1 K):bj t F (k+1) ρ σ K:=ht _ (hF _ h)
end Mine
end
section
namespace Mine
open PySem
theorem eq_26 {F:PV→ak→(List D→ak→Prop)→Prop}{vi:PV}{all:List PV}{σ:ak}(hv:∀ R,R→dE vi all σ R){g:Kd→D}{ks:List Kd}:∀ {K:List D→ak→Prop},(∀ x∈ks,∀ K:List D→ak→Prop,K [g x] σ→F (.p (kD x)) σ K)→K (ks.map g) σ→dh vi all F (List.map PV.p (kDs ks)) σ K:=by
 induction ks with
 | nil=>exact fun J k=>hv _ k
 | cons x ks ih=>exact fun h k=>hv _ (h x mem_cons_self _ (ih (fun y hy=>h y (mem_cons_of_mem _ hy)) k))
theorem rM {d:D}{all:List PV}{σ:ak}:∀ R,R→dE (.p d) all σ R:=fun J r=>r
mutual
noncomputable def Kd.ne:Kd→Bool
 | .bot=>false
 | .tup ks _=>Kd.nes ks
 | _=>true
noncomputable def Kd.nes:List Kd→Bool
 | []=>true
 | k::ks=>k.ne&&Kd.nes ks
end
theorem eq_717 {ks:List Kd}:dY (.bool true) (ks.map fun k=>.bool (!k.ne))=!Kd.nes ks:=by
 induction ks with
 | nil=>rfl
 | cons k ks ih=>
  refine(congrArg (_||·) ih).trans ?_
  show ((_==_)||!Kd.nes ks)=!(k.ne&&Kd.nes ks)
  cases k.ne<;>cases Kd.nes ks<;>rfl
theorem eq_27 {k:Kd}:1≤k.dep:=by cases k<;>first | exact qZ rfl | exact Nat.le_add_left 1 _
theorem tb {P:Fin 4→Prop}(h0:P 0)(h1:P 1)(h2:P 2)(h3:P 3)(u:Fin 4):P u:=match u with
 | 0=>h0
 | 1=>h1
 | 2=>h2
 | 3=>h3
theorem cT {b:Bool}{P:Prop}(h:b=true)(p:P):cond b P False:=by rw[h];exact p
theorem cF {b:Bool}{P Q:Prop}(h:b=false)(p:Q):cond b P Q:=by rw[h];exact p
theorem cY {b:Bool}{P Q:Prop}(h:b=true)(p:P):cond b P Q:=by rw[h];exact p
theorem eq_718 (n:Nat):∀ (k:Kd),k.dep≤n→k.wid≤300→∀ {σ:ak}{K:KP},K (.p (.bool (!k.ne))) σ→ae an (n+1) 27 [.p (kD k)] σ K:=by
 induction n with
 | zero=>exact fun k h=>absurd (Nat.le_trans eq_27 h) (Nat.lt_irrefl 0)
 | succ n ih=>
  intro k h hw σ K hk
  refine rg rfl rfl (rJ rfl rfl ?_)
  cases k with
  | tup ks r=>
   conv=>whnf
   refine cT (eq_183 (Nat.le_trans (Nat.le_max_left _ _) hw)) (eq_26 (g:=fun k=>.bool (!k.ne)) rM (fun x hx K hK=>?_) ?_)
   ·exact ih x (Nat.le_trans (su hx) (Nat.le_of_succ_le_succ h)) (Nat.le_trans (eq_182 hx) (Nat.le_trans (Nat.le_max_right _ _) hw)) hK
   ·conv=>whnf
    rw[show dY (.bool true) (ks.map fun k=>.bool (!k.ne))=!Kd.nes ks from eq_717]
    exact hk
  | all u b=>
   obtain⟨n,rfl⟩:∃ m,n=m+3:=⟨n - 3,u4 h rfl⟩
   clear h hw
   cases u using tb<;>exact hk
  | _=>exact hk
theorem eq_187 {F:PV→ak→(List D→ak→Prop)→Prop}{vi:PV}{all:List PV}{σ:ak}(hv:∀ R,R→dE vi all σ R){g:Kd→List D}{ks:List Kd}:∀ {K:List D→ak→Prop},(∀ x∈ks,∀ K:List D→ak→Prop,K (g x) σ→F (.p (kD x)) σ K)→K (ks.flatMap g) σ→dh vi all F (List.map PV.p (kDs ks)) σ K:=by
 induction ks with
 | nil=>exact fun J k=>hv _ k
 | cons x ks ih=>exact fun h k=>hv _ (h x mem_cons_self _ (ih (fun y hy=>h y (mem_cons_of_mem _ hy)) k))
mutual
noncomputable def cs:Kd→List Kd
 | .uni ks=>css ks
 | .tup ks r=>(prods ks).map fun row=>.tup row r
 | k=>[k]
noncomputable def css:List Kd→List Kd
 | []=>[]
 | k::ks=>cs k++css ks
noncomputable def prods:List Kd→List (List Kd)
 | []=>[[]]
 | k::ks=>(cs k).flatMap fun c=>(prods ks).map fun row=>c::row
end
mutual
noncomputable def cn:Kd→Nat
 | .uni ks=>cns ks
 | .tup ks _=>cnp ks
 | _=>1
noncomputable def cns:List Kd→Nat
 | []=>0
 | k::ks=>cn k+cns ks
noncomputable def cnp:List Kd→Nat
 | []=>1
 | k::ks=>cn k*cnp ks
end
theorem eq_188 (k:Kd):(cs k).length=cn k∧∀ ks,(css ks).length=cns ks∧(prods ks).length=cnp ks:=by
 have hc:∀ {k ks},(cs k).length=cn k→(css ks).length=cns ks∧(prods ks).length=cnp ks→(css (k::ks)).length=cns (k::ks)∧(prods (k::ks)).length=cnp (k::ks):=fun {k ks} h hs=>by
  refine⟨length_append.trans (congr (congrArg _ h) hs.1),?_⟩
  show ((cs k).flatMap fun c=>(prods ks).map fun row=>c::row).length=cn k*cnp ks
  rw[← h,← hs.2]
  generalize cs k=l
  induction l with
  | nil=>exact(Nat.zero_mul _).symm
  | cons c l ih=>rw[List.flatMap_cons,length_append,ih,length_map,List.length_cons,Nat.succ_mul,Nat.add_comm]
 have go:∀ k,(cs k).length=cn k:=fun k=>
  Kd.rec (motive_1:=fun k=>(cs k).length=cn k) (motive_2:=fun ks=>(css ks).length=cns ks∧(prods ks).length=cnp ks) rfl (fun J=>rfl) (fun J=>rfl) (fun J=>rfl) (fun J=>rfl) (fun J J=>rfl) (fun J J ih=>length_map _ |>.trans ih.2) (fun J ih=>ih.1) rfl rfl (fun J J=>rfl) ⟨rfl,rfl⟩ (fun J J=>hc) k
 exact⟨go k,fun ks=>by
  induction ks with
  | nil=>exact⟨rfl,rfl⟩
  | cons k ks ih=>exact hc (go k) ih⟩
theorem eq_28 (k:Kd):(cs k).length=cn k:=(eq_188 k).1
theorem eq_719 (ks:List Kd):(css ks).length=cns ks:=((eq_188 .bot).2 ks).1
theorem eq_720 (ks:List Kd):(prods ks).length=cnp ks:=((eq_188 .bot).2 ks).2
mutual
noncomputable def lL:Kd→Bool
 | .uni ks=>(Nat.ble 1 ks.length&&Nat.ble (cns ks) 64)&&coks ks
 | .tup ks _=>Nat.ble (cnp ks) 64&&coks ks
 | _=>true
noncomputable def coks:List Kd→Bool
 | []=>true
 | k::ks=>lL k&&coks ks
end
theorem eq_189 {P:Kd→Prop}{Q:List Kd→Prop}(e:∀ {x xs},Q (x::xs)→P x∧Q xs){ks:List Kd}{k:Kd}(h:Q ks)(hm:k∈ks):P k:=by
 induction ks with
 | nil=>cases hm
 | cons x ks ih=>
  rcases mem_cons.mp hm with rfl | hm
  ·exact(e h).1
  ·exact ih (e h).2 hm
theorem eq_350 {ks:List Kd}{k:Kd}(h:coks ks=true):k∈ks→lL k=true:=eq_189 (Q:=fun ks=>coks ks=true) aT h
theorem eq_351 (k:Kd):(lL k=true→1≤cn k)∧∀ ks,coks ks=true→1≤cnp ks:=by
 have hc:∀ {k ks},(lL k=true→1≤cn k)→(coks ks=true→1≤cnp ks)→coks (k::ks)=true→1≤cnp (k::ks):=fun a b h=>Nat.mul_pos (a (aT h).1) (b (aT h).2)
 have go:∀ k,lL k=true→1≤cn k:=fun k=>
  Kd.rec (motive_1:=fun k=>lL k=true→1≤cn k) (motive_2:=fun ks=>(coks ks=true→1≤ks.length→1≤cns ks)∧(coks ks=true→1≤cnp ks)) (fun J=>Nat.le_refl _) (fun J J=>Nat.le_refl _) (fun J J=>Nat.le_refl _) (fun J J=>Nat.le_refl _) (fun J J=>Nat.le_refl _) (fun J J J=>Nat.le_refl _) (fun J J ih h=>ih.2 (aT h).2)
   (fun J ih h=>ih.1 (aT h).2 (Nat.le_of_ble_eq_true (aT (aT h).1).1)) (fun J=>Nat.le_refl _) (fun J=>Nat.le_refl _) (fun J J J=>Nat.le_refl _) ⟨fun J h=>h,fun J=>Nat.le_refl _⟩ (fun J J ih ihs=>⟨fun h J=>Nat.le_trans (ih (aT h).1) (Nat.le_add_right _ _),hc ih ihs.2⟩) k
 exact⟨go k,fun ks=>by
  induction ks with
  | nil=>exact fun J=>Nat.le_refl _
  | cons k ks ih=>exact hc (go k) ih⟩
theorem eq_58 (k:Kd):lL k=true→1≤cn k:=(eq_351 k).1
theorem eq_190 (ks:List Kd):coks ks=true→1≤cnp ks:=(eq_351 .bot).2 ks
theorem tc {xs ys:List Kd}:kDs (xs++ys)=kDs xs++kDs ys:=by
 induction xs with
 | nil=>rfl
 | cons x xs ih=>exact congrArg (kD x::·) ih
noncomputable def fj (rows:List (List Kd)):List D:=rows.map fun row=>.tup (kDs row)
theorem eq_352 {F:PV→ak→(List D→ak→Prop)→Prop}{vi:PV}{all:List PV}{σ:ak}(hv:∀ R,R→dE vi all σ R){g:List Kd→List D}{rows:List (List Kd)}:∀ {K:List D→ak→Prop},(∀ x∈rows,∀ K:List D→ak→Prop,K (g x) σ→F (.p (.tup (kDs x))) σ K)→K (rows.flatMap g) σ→dh vi all F (List.map PV.p (fj rows)) σ K:=by
 induction rows with
 | nil=>exact fun J k=>hv _ k
 | cons x ks ih=>exact fun h k=>hv _ (h x mem_cons_self _ (ih (fun y hy=>h y (mem_cons_of_mem _ hy)) k))
theorem eq_191 {rows:List (List Kd)}{m:Nat}(h:rows.length≤m):(List.map PV.p (fj rows)).length.ble m=true:=by
 rw[length_map,fj,length_map];exact Nat.ble_eq_true_of_le h
theorem sw {ks:List Kd}{m:Nat}(h:ks.length≤m):(List.map PV.p (kDs ks)).length.ble m=true:=by
 rw[length_map,s9];exact Nat.ble_eq_true_of_le h
theorem eq_721 {n:Nat}{row:List Kd}{r:Option Nat}{σ:ak}{K:KP}(hz:row.length≤300)(k:K (.p (kD (.tup row r))) σ):ae an (n+1) 1 [.p (.tup (kDs row)),.p (mX r)] σ K:=by
 refine rg rfl rfl (rJ rfl rfl ?_)
 cases r<;>exact k
theorem eq_59 {ds:List D}:dX (List.map PV.p ds)=.p (.tup ds):=by
 unfold dX
 rw[rR]
theorem eq_722 {n:Nat}{row:List Kd}{r:Option Nat}{σ:ak}{K:KP}(hz:row.length≤300)(k:K (.p (kD (.tup row r))) σ):ae an (n+1) 1 [.p (.lst (kDs row)),.p (mX r)] σ K:=by
 refine rg rfl rfl (rJ rfl rfl ?_)
 refine rF (eq_183 hz) ?_
 conv=>whnf
 rw[eq_59]
 cases r<;>exact k
theorem rD {ks:List Kd}:(List.map PV.p (kDs ks)).length=ks.length:=by rw[length_map,s9]
theorem eq_353 {rows:List (List Kd)}:(List.map PV.p (fj rows)).length=rows.length:=by rw[length_map,fj,length_map]
theorem rj {a b:Nat}(h:a≤b):a.ble b=true:=Nat.ble_eq_true_of_le h
theorem eq_101 {n:Nat}(h:n≤4611686018427387904):dD (n:Int)=true:=rj h
theorem eq_723 {rows:List (List Kd)}{part:Kd}:(rows.flatMap fun row=>(cs part).flatMap fun c=>[D.tup (kDs (row++[c]))])=fj (rows.flatMap fun row=>(cs part).map fun c=>row++[c]):=by
 refine Eq.trans (congrArg (List.flatMap · rows) (funext fun row=>?_)) List.map_flatMap.symm
 rw[List.map_map]
 generalize cs part=l
 induction l with
 | nil=>rfl
 | cons x l ih=>exact congrArg (D.tup (kDs (row++[x]))::·) ih
theorem eq_724 {n:Nat}{part:Kd}{k0:PV}{rows:List (List Kd)}{rest:aN}{K:KR}(hr:rest=[]∨∃ P C,rest=[(bq,P),(er,C)])(hn:rows.length*cn part≤64)(hr1:rows.length≤64)(hl:∀ row∈rows,row.length≤300)(hp:cn part≤64)
  (ih:∀ {σ:ak}{K:KP},K (.p (.lst (kDs (cs part)))) σ→ae an n 25 [.p (kD part)] σ K)
  (k:∀ P C,K .next [(ad,k0),(aU,.p (.lst (fj (rows.flatMap fun row=>(cs part).map fun c=>row++[c])))),(bq,P),(er,C)] []) :
  bu an.tab (ae an n) qa (de bq (.p (kD part)) ((ad,k0)::(aU,.p (.lst (fj rows)))::rest)) [] K:=by
 have hc:(cs part).length≤64:=eq_28 part▸hp
 have hd:decide ((64:Int)<(rows.length:Int)*((cs part).length:Int))=false:=by
  rw[decide_eq_false]
  rw[eq_28,← Int.natCast_mul]
  exact fun q=>Nat.not_lt.mpr hn (Int.ofNat_lt.mp q)
 have hap:∀ (row:List Kd)(c:Kd),kDs row++[kD c]=kDs (row++[c]):=fun row c=>(tc (ys:=[c])).symm
 rcases hr with rfl | ⟨P,C,rfl⟩
 all_goals
  refine ih ?_
  refine cT (eq_191 (u1 hr1 rfl)) (cT (sw (u1 hc rfl)) (cT (aI (eq_101 (by rw[eq_353];exact u1 hr1 rfl)) (eq_101 (by rw[rD];exact u1 hc rfl))) ?_))
  refine cF (by rw[eq_353,rD];exact hd) ?_
  refine cT (eq_191 (u1 hr1 rfl)) ?_
  refine eq_352 (g:=fun row=>(cs part).flatMap fun c=>[.tup (kDs (row++[c]))]) rM (fun row hrow K hK=>?_) (eq_723▸k _ _)
  refine cT rfl (cT (sw (u1 hc rfl)) ?_)
  refine eq_187 (g:=fun c=>[D.tup (kDs (row++[c]))]) rM (fun c hc K hK=>?_) hK
  exact cT (by rw[s9];exact rj (u9 (hl row hrow) rfl)) (hap row c▸hK)
theorem eq_725 {rows:List (List Kd)}:(rows.flatMap fun row=>(prods []).map fun p=>row++p)=rows:=by
 induction rows with
 | nil=>rfl
 | cons r rs ih=>exact(congrArg (_::·) ih).trans (congrArg (·::rs) (append_nil r))
theorem eq_726 {rows:List (List Kd)}{k:Kd}{ks:List Kd}:((rows.flatMap fun row=>(cs k).map fun c=>row++[c]).flatMap fun row=>(prods ks).map fun p=>row++p)=rows.flatMap fun row=>(prods (k::ks)).map fun p=>row++p:=by
 rw[List.flatMap_assoc]
 congr 1
 funext row
 simp only[prods,List.map_flatMap,List.flatMap_map,List.map_map]
 congr 1
 funext c
 congr 1
 funext p
 simp
theorem eq_727 {rows:List (List Kd)}{k:Kd}:(rows.flatMap fun row=>(cs k).map fun c=>row++[c]).length=rows.length*cn k:=by
 simp only[List.length_flatMap,length_map,List.map_const',List.sum_replicate_nat,eq_28]
def mJ (rest:aN):Prop:=rest=[]∨∃ P C,rest=[(bq,P),(er,C)]
theorem eq_728 {n:Nat}{k0:PV}{vi:PV}{all:List PV}(hv:∀ R,R→dE vi all [] R){K:KR}(ks:List Kd):∀ {rows:List (List Kd)}{rest:aN}{m:Nat},mJ rest→coks ks=true→rows.length*cnp ks≤64→(∀ row∈rows,row.length≤m)→m+ks.length≤300→
  (∀ x∈ks,cn x≤64∧∀ {σ:ak}{K:KP},K (.p (.lst (kDs (cs x)))) σ→ae an n 25 [.p (kD x)] σ K)→
  (∀ rest,mJ rest→K .next ((ad,k0)::(aU,.p (.lst (fj (rows.flatMap fun row=>(prods ks).map fun p=>row++p))))::rest) [])→
  hZ vi all (fun x ρ σ K=>match bo (.one bq) x ρ with
   | some ρ'=>bu an.tab (ae an n) qa ρ' σ K
   | none=>False) (List.map PV.p (kDs ks)) ((ad,k0)::(aU,.p (.lst (fj rows)))::rest) [] K:=by
 induction ks with
 | nil=>
  intro rows rest m hr hc hn hm hl ih k
  have q:=k rest hr
  rw[eq_725] at q
  exact hv _ q
 | cons x ks go=>
  intro rows rest m hr hc hn hm hl ih k
  have hn:rows.length*(cn x*cnp ks)≤64:=hn
  have hn1:rows.length*cn x≤64:=Nat.le_trans (Nat.mul_le_mul_left _ (Nat.le_mul_of_pos_right _ (eq_190 ks (aT hc).2))) hn
  have hn2:rows.length≤64:=Nat.le_trans (Nat.le_mul_of_pos_right _ (eq_58 x (aT hc).1)) hn1
  have hm3:m≤300:=sj hl rfl
  refine hv _ (eq_724 hr hn1 hn2 (fun row hr=>Nat.le_trans (hm row hr) hm3) (ih x mem_cons_self).1 (ih x mem_cons_self).2 fun P C=>?_)
  refine go (m:=m+1) (.inr ⟨P,C,rfl⟩) (aT hc).2 (by rw[eq_727,Nat.mul_assoc];exact hn) (fun row hr=>?_) (Nat.le_trans (Nat.le_of_eq (Nat.succ_add_eq_add_succ m ks.length)) hl) (fun y hy=>ih y (mem_cons_of_mem _ hy)) fun rest hrest=>eq_726▸k rest hrest
  obtain⟨r0,h0,h1⟩:=List.mem_flatMap.mp hr
  obtain⟨c,_,rfl⟩:=List.mem_map.mp h1
  rw[length_append]
  exact Nat.succ_le_succ (hm r0 h0)
theorem eq_729 {ks:List Kd}:∀ {row:List Kd},row∈prods ks→row.length=ks.length:=by
 induction ks with
 | nil=>exact fun h=>by rw[mem_singleton.mp h]
 | cons k ks ih=>
  intro row h
  obtain⟨c,_,h⟩:=List.mem_flatMap.mp h
  obtain⟨r,hr,rfl⟩:=List.mem_map.mp h
  exact congrArg (·+1) (ih hr)
theorem eq_354 {α β:Type}{f:α→β}{l:List α}:(l.flatMap fun x=>[f x])=l.map f:=by
 induction l with
 | nil=>rfl
 | cons x l ih=>exact congrArg (f x::·) ih
theorem eq_730 {n:Nat}{ks:List Kd}{r:Option Nat}(h0:1≤n)(hc:coks ks=true)(hn:cnp ks≤64)(hl:ks.length≤300)(ih:∀ x∈ks,cn x≤64∧∀ {σ:ak}{K:KP},K (.p (.lst (kDs (cs x)))) σ→ae an n 25 [.p (kD x)] σ K)
  {σ:ak}{K:KP}(k:K (.p (.lst (kDs (cs (.tup ks r))))) σ):ae an (n+1) 26 [.p (kD (.tup ks r))] σ K:=by
 refine rg rfl rfl (rJ rfl rfl ?_)
 conv=>whnf
 refine eq_728 (rows:=[[]]) (rest:=[]) (m:=0) rM ks (.inl rfl) hc (Nat.le_trans (Nat.le_of_eq (Nat.one_mul _)) hn) (fun row h=>by rw[mem_singleton.mp h];exact Nat.le_refl _) (Nat.le_trans (Nat.le_of_eq (Nat.zero_add _)) hl) ih fun rest hrest=>?_
 have e:(([[]]:List (List Kd)).flatMap fun row=>(prods ks).map fun p=>row++p)=prods ks:=(append_nil _).trans (List.map_id' _)
 rw[e]
 have e2:((prods ks).flatMap fun row=>[kD (.tup row r)])=kDs (cs (.tup ks r)):=by
  rw[eq_354,eq_25]
  show _=List.map kD (List.map (fun row=>Kd.tup row r) (prods ks))
  rw[List.map_map]
  rfl
 obtain⟨m,rfl⟩:∃ m,n=m+1:=⟨n - 1,u3 h0 rfl⟩
 have hk:(prods ks).length≤100000:=by rw[eq_720];exact u1 hn rfl
 rcases hrest with rfl | ⟨P,C,rfl⟩
 all_goals exact cT (eq_191 hk) (eq_352 (g:=fun row=>[kD (.tup row r)]) rM (fun row hrow K hK=>hK) (e2▸k))
theorem eq_731 {ks:List Kd}{x:Kd}(hc:coks ks=true)(hx:x∈ks):cn x≤cnp ks:=by
 induction ks with
 | nil=>cases hx
 | cons y ks ih=>
  rcases mem_cons.mp hx with rfl | hx
  ·exact Nat.le_mul_of_pos_right _ (eq_190 ks (aT hc).2)
  ·exact Nat.le_trans (ih (aT hc).2 hx) (Nat.le_mul_of_pos_left _ (eq_58 y (aT hc).1))
theorem eq_732 {ks:List Kd}{x:Kd}(hx:x∈ks):cn x≤cns ks:=by
 induction ks with
 | nil=>cases hx
 | cons y ks ih=>
  rcases mem_cons.mp hx with rfl | hx
  ·exact Nat.le_add_right _ _
  ·exact Nat.le_trans (ih hx) (Nat.le_add_left _ _)
theorem eq_733 {ks:List Kd}:css ks=ks.flatMap cs:=by
 induction ks with
 | nil=>rfl
 | cons k ks ih=>exact congrArg (cs k++·) ih
theorem eq_734 {ks:List Kd}:(ks.flatMap fun x=>kDs (cs x))=kDs (css ks):=by
 induction ks with
 | nil=>rfl
 | cons k ks ih=>exact(congrArg (kDs (cs k)++·) ih).trans tc.symm
theorem eq_355 {a b:Nat}(h:a≤b):decide ((a:Int)≤(b:Int))=true:=decide_eq_true (Int.ofNat_le.mpr h)
theorem eq_735:∀ (n:Nat)(k:Kd),2*k.dep<n→lL k=true→k.wid≤300→∀ {σ:ak}{K:KP},K (.p (.lst (kDs (cs k)))) σ→ae an n 25 [.p (kD k)] σ K:=by
 intro n
 induction n using Nat.strongRecOn with
 | ind n ih=>
  intro k h hc hw σ K hk
  obtain⟨m,rfl⟩:∃ m,n=m+1:=⟨n - 1,rq h⟩
  refine rg rfl rfl (rJ rfl rfl ?_)
  have hs:∀ {ks:List Kd}{x:Kd}{q:Nat},x∈ks→2*(Kd.deps ks+1)<q+2→2*x.dep<q:=fun hx h=>Nat.lt_of_le_of_lt (Nat.mul_le_mul_left 2 (su hx)) (Nat.lt_of_add_lt_add_right (n:=2) h)
  cases k with
  | tup ks r=>
   have hw2:Kd.wids ks≤300:=Nat.le_trans (Nat.le_max_right _ _) hw
   have hnp:cnp ks≤64:=Nat.le_of_ble_eq_true (aT hc).1
   have hz:(cs (.tup ks r)).length≤64:=by rw[eq_28];exact hnp
   obtain⟨q,rfl⟩:∃ q,m=q+1:=⟨m - 1,rq (Nat.lt_of_lt_of_le (Nat.zero_lt_succ _) (Nat.le_of_succ_le_succ h))⟩
   have hq:1≤q:=Nat.le_of_succ_le_succ (Nat.le_of_succ_le_succ (Nat.le_trans (Nat.succ_le_succ (Nat.mul_le_mul_left 2 (Nat.le_add_left 1 (Kd.deps ks)))) h))
   conv=>whnf
   refine eq_730 hq (aT hc).2 hnp (Nat.le_trans (Nat.le_max_left _ _) hw) (fun x hx=>⟨Nat.le_trans (eq_731 (aT hc).2 hx) hnp,fun {σ K} hK=>?_⟩) ?_
   ·exact ih q (Nat.lt_succ_of_lt (Nat.lt_succ_self q)) x (hs hx h) (eq_350 (aT hc).2 hx) (Nat.le_trans (eq_182 hx) hw2) hK
   ·exact cT (sw (u1 hz rfl)) (cY (by rw[rD];exact eq_355 (b:=64) hz) hk)
  | uni ks=>
   have hw2:Kd.wids ks≤300:=Nat.le_trans (Nat.le_max_right _ _) hw
   have hnp:cns ks≤64:=Nat.le_of_ble_eq_true (aT (aT hc).1).2
   refine cT (sw (Nat.le_trans (Nat.le_max_left _ _) hw)) ?_
   refine eq_187 (g:=fun x=>kDs (cs x)) rM (fun x hx K hK=>?_) ?_
   ·refine cT rfl (ih m (Nat.lt_succ_self m) x (hs (q:=m) hx (Nat.lt_succ_of_lt h)) (eq_350 (aT hc).2 hx) (Nat.le_trans (eq_182 hx) hw2) ?_)
    have hz:(cs x).length≤300:=by rw[eq_28];exact u7 (eq_732 hx) hnp rfl
    refine cT (sw hz) (eq_187 (g:=fun y=>[kD y]) rM (fun y hy K hK=>hK) ?_)
    rw[eq_354,← eq_25]
    exact hK
   ·have hz:(css ks).length≤64:=by rw[eq_719];exact hnp
    rw[eq_734]
    exact cT (sw (u1 hz rfl)) (cY (by rw[rD];exact eq_355 (b:=64) hz) hk)
  | all u b=>
   obtain⟨m,rfl⟩:∃ q,m=q+8:=⟨m - 8,u3 (Nat.le_of_lt_succ h) rfl⟩
   clear h hc hw
   cases u using tb<;>exact hk
  | _=>exact hk
noncomputable def KV:PV:=.inst 4 [cQ] [.dct [ai,dJ,bV,bA,cg,ay,aP,bk,av,aO,ch,kM,jt,ju,aG,ik,jv,im,io,ip,cz,kW,aA,eO,gf,kX,dM,dk,eI,cf,cW,cX,cq,cK,dN,cL,c5,dW,aD,bg,fq,bG,eP,eR,gG,ft] [
 .inst 3 [aa,aq,ax,af,ag,ar] [.p (.str ai),.p (.lst []),.p (.none),.p (.bool true),.p (.bool false),.p (.lst [])],
 .inst 3 [aa,aq,ax,af,ag,ar] [.p (.str dJ),.p (.lst []),.p (.tup [.str aa,.str ai,.tup []]),.p (.bool true),.p (.bool false),.p (.lst [])],
 .inst 3 [aa,aq,ax,af,ag,ar] [.p (.str bV),.p (.lst []),.p (.tup [.str aa,.str ai,.tup []]),.p (.bool true),.p (.bool false),.p (.lst [])],
 .inst 3 [aa,aq,ax,af,ag,ar] [.p (.str bA),.p (.lst []),.p (.tup [.str aa,.str ai,.tup []]),.p (.bool true),.p (.bool false),.p (.lst [])],
 .inst 3 [aa,aq,ax,af,ag,ar] [.p (.str cg),.p (.lst []),.p (.tup [.str aa,.str ai,.tup []]),.p (.bool true),.p (.bool false),.p (.lst [])],
 .inst 3 [aa,aq,ax,af,ag,ar] [.p (.str ay),.p (.lst []),.p (.tup [.str aa,.str ai,.tup []]),.p (.bool true),.p (.bool false),.p (.lst [])],
 .inst 3 [aa,aq,ax,af,ag,ar] [.p (.str aP),.p (.lst []),.p (.tup [.str aa,.str ai,.tup []]),.p (.bool true),.p (.bool false),.p (.lst [])],
 .inst 3 [aa,aq,ax,af,ag,ar] [.p (.str bk),.p (.lst []),.p (.tup [.str aa,.str bA,.tup []]),.p (.bool true),.p (.bool false),.p (.lst [])],
 .inst 3 [aa,aq,ax,af,ag,ar] [.p (.str av),.p (.lst []),.p (.tup [.str aa,.str bk,.tup []]),.p (.bool true),.p (.bool false),.p (.lst [])],
 .inst 3 [aa,aq,ax,af,ag,ar] [.p (.str aO),.p (.lst []),.p (.tup [.str aa,.str av,.tup []]),.p (.bool true),.p (.bool false),.p (.lst [])],
 .inst 3 [aa,aq,ax,af,ag,ar] [.p (.str ch),.p (.lst []),.p (.tup [.str aa,.str av,.tup []]),.p (.bool true),.p (.bool false),.p (.lst [])],
 .inst 3 [aa,aq,ax,af,ag,ar] [.p (.str kM),.p (.lst []),.p (.tup [.str aa,.str aO,.tup []]),.p (.bool false),.p (.bool false),.p (.lst [])],
 .inst 3 [aa,aq,ax,af,ag,ar] [.p (.str jt),.p (.lst []),.p (.tup [.str aa,.str aO,.tup []]),.p (.bool false),.p (.bool false),.p (.lst [])],
 .inst 3 [aa,aq,ax,af,ag,ar] [.p (.str ju),.p (.lst []),.p (.tup [.str aa,.str aO,.tup []]),.p (.bool false),.p (.bool false),.p (.lst [])],
 .inst 3 [aa,aq,ax,af,ag,ar] [.p (.str aG),.p (.lst []),.p (.tup [.str aa,.str aO,.tup []]),.p (.bool false),.p (.bool false),.p (.lst [])],
 .inst 3 [aa,aq,ax,af,ag,ar] [.p (.str ik),.p (.lst []),.p (.tup [.str aa,.str aO,.tup []]),.p (.bool false),.p (.bool false),.p (.lst [])],
 .inst 3 [aa,aq,ax,af,ag,ar] [.p (.str jv),.p (.lst []),.p (.tup [.str aa,.str ch,.tup []]),.p (.bool false),.p (.bool false),.p (.lst [])],
 .inst 3 [aa,aq,ax,af,ag,ar] [.p (.str im),.p (.lst []),.p (.tup [.str aa,.str ch,.tup []]),.p (.bool false),.p (.bool false),.p (.lst [])],
 .inst 3 [aa,aq,ax,af,ag,ar] [.p (.str io),.p (.lst []),.p (.tup [.str aa,.str ch,.tup []]),.p (.bool false),.p (.bool false),.p (.lst [])],
 .inst 3 [aa,aq,ax,af,ag,ar] [.p (.str ip),.p (.lst []),.p (.tup [.str aa,.str ch,.tup []]),.p (.bool false),.p (.bool false),.p (.lst [])],
 .inst 3 [aa,aq,ax,af,ag,ar] [.p (.str cz),.p (.lst []),.p (.tup [.str aa,.str av,.tup []]),.p (.bool false),.p (.bool false),.p (.lst [])],
 .inst 3 [aa,aq,ax,af,ag,ar] [.p (.str kW),.p (.lst []),.p (.tup [.str aa,.str cg,.tup []]),.p (.bool false),.p (.bool false),.p (.lst [])],
 .inst 3 [aa,aq,ax,af,ag,ar] [.p (.str aA),.p (.lst []),.p (.tup [.str aa,.str ay,.tup []]),.p (.bool false),.p (.bool false),.p (.lst [])],
 .inst 3 [aa,aq,ax,af,ag,ar] [.p (.str eO),.p (.lst []),.p (.tup [.str aa,.str ai,.tup []]),.p (.bool false),.p (.bool false),.p (.lst [])],
 .inst 3 [aa,aq,ax,af,ag,ar] [.p (.str gf),.p (.lst []),.p (.tup [.str aa,.str ai,.tup []]),.p (.bool false),.p (.bool false),.p (.lst [])],
 .inst 3 [aa,aq,ax,af,ag,ar] [.p (.str kX),.p (.lst []),.p (.tup [.str aa,.str ai,.tup []]),.p (.bool false),.p (.bool true),.p (.lst [.tup [.str mC,.tup [.str aa,.str eO,.tup []]],.tup [.str ix,.tup [.str aa,.str ai,.tup []]]])],
 .inst 3 [aa,aq,ax,af,ag,ar] [.p (.str dM),.p (.lst []),.p (.tup [.str aa,.str aP,.tup []]),.p (.bool false),.p (.bool false),.p (.lst [])],
 .inst 3 [aa,aq,ax,af,ag,ar] [.p (.str dk),.p (.lst []),.p (.tup [.str aa,.str aP,.tup []]),.p (.bool false),.p (.bool false),.p (.lst [])],
 .inst 3 [aa,aq,ax,af,ag,ar] [.p (.str eI),.p (.lst []),.p (.tup [.str aa,.str aP,.tup []]),.p (.bool false),.p (.bool false),.p (.lst [])],
 .inst 3 [aa,aq,ax,af,ag,ar] [.p (.str cf),.p (.lst []),.p (.tup [.str aa,.str aP,.tup []]),.p (.bool false),.p (.bool false),.p (.lst [])],
 .inst 3 [aa,aq,ax,af,ag,ar] [.p (.str cW),.p (.lst []),.p (.tup [.str aa,.str aP,.tup []]),.p (.bool false),.p (.bool false),.p (.lst [.tup [.str j5,.tup [.str aa,.str ai,.tup []]]])],
 .inst 3 [aa,aq,ax,af,ag,ar] [.p (.str cX),.p (.lst []),.p (.tup [.str aa,.str aP,.tup []]),.p (.bool false),.p (.bool false),.p (.lst [.tup [.str j5,.tup [.str aa,.str ai,.tup []]]])],
 .inst 3 [aa,aq,ax,af,ag,ar] [.p (.str cq),.p (.lst []),.p (.tup [.str aa,.str aP,.tup []]),.p (.bool false),.p (.bool false),.p (.lst [.tup [.str j5,.tup [.str aa,.str ai,.tup []]]])],
 .inst 3 [aa,aq,ax,af,ag,ar] [.p (.str cK),.p (.lst []),.p (.tup [.str aa,.str aP,.tup []]),.p (.bool false),.p (.bool false),.p (.lst [.tup [.str j5,.tup [.str aa,.str ai,.tup []]]])],
 .inst 3 [aa,aq,ax,af,ag,ar] [.p (.str dN),.p (.lst []),.p (.tup [.str aa,.str aP,.tup []]),.p (.bool false),.p (.bool false),.p (.lst [.tup [.str mW,.tup [.str aa,.str ai,.tup []]],.tup [.str ix,.tup [.str aa,.str ai,.tup []]]])],
 .inst 3 [aa,aq,ax,af,ag,ar] [.p (.str cL),.p (.lst []),.p (.tup [.str aa,.str aP,.tup []]),.p (.bool false),.p (.bool false),.p (.lst [.tup [.str mW,.tup [.str aa,.str ai,.tup []]],.tup [.str ix,.tup [.str aa,.str ai,.tup []]]])],
 .inst 3 [aa,aq,ax,af,ag,ar] [.p (.str c5),.p (.lst []),.p (.tup [.str aa,.str aP,.tup []]),.p (.bool false),.p (.bool false),.p (.lst [.tup [.str aM,.tup [.str aa,.str ai,.tup []]]])],
 .inst 3 [aa,aq,ax,af,ag,ar] [.p (.str dW),.p (.lst []),.p (.tup [.str aa,.str aP,.tup []]),.p (.bool false),.p (.bool false),.p (.lst [.tup [.str qz,.tup [.str aa,.str ai,.tup []]],.tup [.str qA,.tup [.str aa,.str ai,.tup []]]])],
 .inst 3 [aa,aq,ax,af,ag,ar] [.p (.str aD),.p (.lst [.tup [.str a9,.tup [.str aB],.tup [.str aa,.str ai,.tup []]],.tup [.str ev,.tup [.str aB],.tup [.str aa,.str ai,.tup []]]]),.p (.tup [.str aa,.str ai,.tup []]),.p (.bool true),.p (.bool false),.p (.lst [])],
 .inst 3 [aa,aq,ax,af,ag,ar] [.p (.str bg),.p (.lst [.tup [.str a9,.tup [.str aB],.tup [.str aa,.str ai,.tup []]],.tup [.str ev,.tup [.str aB],.tup [.str aa,.str ai,.tup []]]]),.p (.tup [.str aa,.str aD,.tup [.tup [.str aM,.str a9],.tup [.str aM,.str ev]]]),.p (.bool false),.p (.bool true),.p (.lst [])],
 .inst 3 [aa,aq,ax,af,ag,ar] [.p (.str fq),.p (.lst [.tup [.str a9,.tup [.str aB],.tup [.str aa,.str ai,.tup []]],.tup [.str ev,.tup [.str aB],.tup [.str aa,.str ai,.tup []]]]),.p (.tup [.str aa,.str aD,.tup [.tup [.str aM,.str a9],.tup [.str aM,.str ev]]]),.p (.bool false),.p (.bool true),.p (.lst [])],
 .inst 3 [aa,aq,ax,af,ag,ar] [.p (.str bG),.p (.lst [.tup [.str a9,.tup [.str aB],.tup [.str aa,.str ai,.tup []]]]),.p (.tup [.str aa,.str aD,.tup [.tup [.str aM,.str a9],.tup [.str fD,.int 1]]]),.p (.bool true),.p (.bool false),.p (.lst [])],
 .inst 3 [aa,aq,ax,af,ag,ar] [.p (.str eP),.p (.lst [.tup [.str a9,.tup [.str aB],.tup [.str aa,.str ai,.tup []]]]),.p (.tup [.str aa,.str bG,.tup [.tup [.str aM,.str a9]]]),.p (.bool false),.p (.bool false),.p (.lst [.tup [.str g7,.tup [.str aM,.str a9]],.tup [.str jz,.tup [.str aM,.str a9]]])],
 .inst 3 [aa,aq,ax,af,ag,ar] [.p (.str eR),.p (.lst [.tup [.str a9,.tup [.str aB],.tup [.str aa,.str ai,.tup []]]]),.p (.tup [.str aa,.str bG,.tup [.tup [.str aM,.str a9]]]),.p (.bool false),.p (.bool false),.p (.lst [.tup [.str g7,.tup [.str aM,.str a9]],.tup [.str jw,.tup [.str aM,.str a9]],.tup [.str jz,.tup [.str aM,.str a9]]])],
 .inst 3 [aa,aq,ax,af,ag,ar] [.p (.str gG),.p (.lst [.tup [.str a9,.tup [.str aB],.tup [.str aa,.str ai,.tup []]]]),.p (.tup [.str aa,.str ai,.tup []]),.p (.bool false),.p (.bool true),.p (.lst [.tup [.str qB,.tup [.str aM,.str a9]]])],
 .inst 3 [aa,aq,ax,af,ag,ar] [.p (.str ft),.p (.lst [.tup [.str a9,.tup [.str aB],.tup [.str aa,.str av,.tup []]]]),.p (.tup [.str aa,.str bk,.tup []]),.p (.bool false),.p (.bool false),.p (.lst [.tup [.str nW,.tup [.str aM,.str a9]],.tup [.str nX,.tup [.str aM,.str a9]]])]]]
theorem eq_736 (n:Nat)(σ:ak)(K:KP):ae an (n+30) 57 [] σ K=K KV σ:=by kernel_rfl
noncomputable def ao:List Nat:=[aG,cz,av,bk,aA,aO,ay]
noncomputable def chain (n:Nat):List Nat:=
 if n=aG then [aG,aO,av,bk,bA,ai]
 else if n=cz then [cz,av,bk,bA,ai]
 else if n=av then [av,bk,bA,ai]
 else if n=bk then [bk,bA,ai]
 else if n=aA then [aA,ay,ai]
 else if n=aO then [aO,av,bk,bA,ai]
 else [ay,ai]
section
variable {σ:ak}{K:KP} (n:Nat)
theorem eq_737:ae an (n+30) 54 [KV,.p (bJ aG)] σ K=K (.p (.lst ([aG,aO,av,bk,bA,ai].map bJ))) σ:=by kernel_rfl
theorem eq_738:ae an (n+30) 54 [KV,.p (bJ cz)] σ K=K (.p (.lst ([cz,av,bk,bA,ai].map bJ))) σ:=by kernel_rfl
theorem eq_739:ae an (n+30) 54 [KV,.p (bJ av)] σ K=K (.p (.lst ([av,bk,bA,ai].map bJ))) σ:=by kernel_rfl
theorem eq_740:ae an (n+30) 54 [KV,.p (bJ bk)] σ K=K (.p (.lst ([bk,bA,ai].map bJ))) σ:=by kernel_rfl
theorem eq_741:ae an (n+30) 54 [KV,.p (bJ aA)] σ K=K (.p (.lst ([aA,ay,ai].map bJ))) σ:=by kernel_rfl
theorem eq_742:ae an (n+30) 54 [KV,.p (bJ aO)] σ K=K (.p (.lst ([aO,av,bk,bA,ai].map bJ))) σ:=by kernel_rfl
theorem eq_743:ae an (n+30) 54 [KV,.p (bJ ay)] σ K=K (.p (.lst ([ay,ai].map bJ))) σ:=by kernel_rfl
theorem eq_192 (m i:Nat):ae an (n+30) 54 [KV,.p (oo (bJ m) i)] σ K=K (.p (.lst [oo (bJ m) i,.tup [.str aa,.str aD,.tup [bJ m,.tup [.str fD,.int i]]],bJ ai])) σ:=by kernel_rfl
theorem eq_356:ae an (n+30) 54 [KV,.p (kD .arv)] σ K=K (.p (.lst [kD .arv,.tup [.str aa,.str aD,.tup [vD fx,.tup [.str fD,.int 1]]],bJ ai])) σ:=by kernel_rfl
end
end Mine
end
section
set_option genSizeOf false
set_option genCtorIdx false
set_option genInjectivity false
namespace Mine
open PySem
structure Sd1 where
 asked:Bool
 los:List Kd
 ups:List Kd
 diag:Bool
structure Sd where
 many:Nat
 row:Option Sd1
noncomputable def d6 (x:Sd1):PV:=.inst 0 [aR,cD,bh,bH,bn] [.p (.bool x.asked),.p (.int 1),.p (.tup (kDs x.los)),.p (.tup (kDs x.ups)),.p (.bool x.diag)]
noncomputable def Sd.keys (S:Sd):List Nat:=match S.row with
 | none=>[]
 | some _=>[fx]
noncomputable def Sd.vals (S:Sd):List PV:=match S.row with
 | none=>[]
 | some x=>[d6 x]
noncomputable def gJ (r:Nat)(S:Sd):Cell:=.inst 1 [aU,bE] [.ref r,.p (.int S.many)]
noncomputable def gu (S:Sd):Cell:=.dict S.keys S.vals
noncomputable def b0 (F:Int):Cell:=.inst 2 [aj,ct] [KV,.p (.int F)]
noncomputable abbrev G:=Bool×Kd×Kd
noncomputable def gD (g:G):D:=.tup [.str (bif g.1 then dP else bU),kD g.2.1,kD g.2.2]
noncomputable def cu (gs:List G):List D:=gs.map gD
def bB (σ:ak) (s r:Nat)(S:Sd):Prop:=σ[s]?=some (gJ r S)∧σ[r]?=some (gu S)
theorem rE {σ τ:ak}{i:Nat}{c:Cell}(h:σ[i]?=some c):(σ++τ)[i]?=some c:=by
 rw[List.getElem?_append_left (List.getElem?_eq_some_iff.mp h).1];exact h
theorem sz {σ:ak}{c:Cell}:(σ++[c])[σ.length]?=some c:=by simp
theorem eq_102 {σ:ak}{c d:Cell}:(σ++[c]).set σ.length d=σ++[d]:=by simp
theorem rV {σ:ak}{i:Nat}{c d:Cell}(h:σ[i]?=some c):(σ.set i d)[i]?=some d:=by
 rw[List.getElem?_set_self (List.getElem?_eq_some_iff.mp h).1]
theorem rL {σ:ak}{i j:Nat}{c:Cell}(h:i≠j):(σ.set i c)[j]?=σ[j]?:=List.getElem?_set_ne h
theorem eq_103 {at_:Nat→Nat→Bool}{σ:ak}{x i c:Nat}{ns:List Nat}{vs:List PV}(h:σ[i]?=some (.inst c ns vs)):hY at_ σ x (.ref i)=bif at_ c x then cJ x ns vs else none:=by
 show (match σ[i]? with
  | some (.inst c ns vs)=>bif at_ c x then cJ x ns vs else none
  | _=>none)=_;rw[h]
theorem td {at_:Nat→Nat→Bool}{σ:ak}{x i c:Nat}{v:PV}{ns:List Nat}{vs:List PV}(h:σ[i]?=some (.inst c ns vs)):mi at_ σ x v (.ref i)=bif at_ c x&&Nat.ble ns.length 500 then some (σ.set i (.inst c (dC x v ns vs).1 (dC x v ns vs).2)) else none:=by
 show (match σ[i]? with
  | some (.inst c ns vs)=>bif at_ c x&&Nat.ble ns.length 500 then (let r:=dC x v ns vs;some (σ.set i (.inst c r.1 r.2))) else none
  | _=>none)=_;rw[h]
theorem eq_357 {σ:ak}{i c:Nat}{ns:List Nat}{vs:List PV}(h:σ[i]?=some (.inst c ns vs)):jb σ (.ref i)=some (c,ns):=by
 show (match σ[i]? with
  | some (.inst c ns vs)=>some (c,ns)
  | _=>none)=_;rw[h]
theorem eq_358 {σ:ak}{i:Nat}{ks:List Nat}{vs:List PV}(h:σ[i]?=some (.dict ks vs)):bC σ (.ref i)=some (ks,vs):=by
 show (match σ[i]? with
  | some (.dict ks vs)=>some (ks,vs)
  | _=>none)=_;rw[h]
theorem eq_7 {σ:ak}{i:Nat}{xs:List PV}(h:σ[i]?=some (.list xs)):bw σ (.ref i)=some xs:=by
 show (match σ[i]? with
  | some (.list xs)=>some xs
  | _=>none)=_;rw[h]
theorem eq_359 {σ:ak}{i:Nat}{xs:List PV}(h:σ[i]?=some (.list xs)):lQ .pop (.ref i) σ=true:=by
 show (match σ[i]? with
  | some (.list _)=>true
  | _=>false)=true
 rw[h]
theorem eq_744 {σ:ak}{i:Nat}{xs:List PV}(h:σ[i]?=some (.list xs)):lQ .append (.ref i) σ=true:=by
 show (match σ[i]? with
  | some (.list _)=>true
  | _=>false)=true
 rw[h]
theorem eq_745 {σ:ak}{i:Nat}{xs:List PV}(h:σ[i]?=some (.list xs)):lQ .extend (.ref i) σ=true:=by
 show (match σ[i]? with
  | some (.list _)=>true
  | _=>false)=true
 rw[h]
theorem eq_746 {σ:ak}{i:Nat}{ks:List Nat}{vs:List PV}(h:σ[i]?=some (.dict ks vs)):lQ .get (.ref i) σ=true:=by
 show (bC σ (.ref i)).isSome=true
 rw[eq_358 h];rfl
section
variable {n:Nat}{σ:ak}{s r q:Nat}{S:Sd}{K:KP}
theorem sd (h:bB σ s r S):hY an.tab.attr σ aU (.ref s)=some (.ref r):=by
 rw[eq_103 h.1];rfl
theorem eq_193 (h:bB σ s r S):hY an.tab.attr σ bE (.ref s)=some (.p (.int S.many)):=by
 rw[eq_103 h.1];rfl
theorem eq_104 {F:Int}(h:σ[q]?=some (b0 F)):hY an.tab.attr σ aj (.ref q)=some KV:=by
 rw[eq_103 h];rfl
theorem eq_194 {F:Int}(h:σ[q]?=some (b0 F)):hY an.tab.attr σ ct (.ref q)=some (.p (.int F)):=by
 rw[eq_103 h];rfl
theorem se {F:Int}(h:σ[q]?=some (b0 F)):jb σ (.ref q)=some (2,[aj,ct]):=eq_357 h
theorem rH (h:bB σ s r S):jb σ (.ref s)=some (1,[aU,bE]):=eq_357 h.1
theorem eq_29 (h:bB σ s r S):bC σ (.ref r)=some (S.keys,S.vals):=eq_358 h.2
theorem eq_747 {n:Nat}{m:Int}{σ:ak}{K:KP}{d:Nat}(k:K (.ref σ.length) (σ++[.inst 1 [aU,bE] [.ref d,.p (.int m)]])):ae an (n+1) 1001 [.ref d,.p (.int m)] σ K:=by
 conv=>whnf
 rw[td sz]
 conv=>whnf
 rw[eq_102,td sz]
 conv=>whnf
 rw[eq_102]
 exact k
theorem eq_748 {n:Nat}{σ:ak}{K:KP}(k:K (.ref σ.length) (σ++[gJ (σ.length+1) ⟨0,none⟩,gu ⟨0,none⟩])):ae an (n+1) 1001 [] σ K:=by
 conv=>whnf
 rw[td (rE sz)]
 conv=>whnf
 rw[append_assoc,List.set_append_right _ _ (Nat.le_refl _),Nat.sub_self]
 rw[td (c:=1) (ns:=[aU]) (vs:=[.ref (σ++[Cell.inst 1 [] []]).length]) (by simp[dC])]
 conv=>whnf
 rw[List.set_append_right _ _ (Nat.le_refl _),Nat.sub_self]
 have e:(σ++[Cell.inst 1 [] []]).length=σ.length+1:=by simp
 rw[e]
 exact k
theorem eq_749 (h:bB σ s r S)(k:K (.ref (σ.length+1)) (σ++[gu S,gJ σ.length S])):ae an (n+3) 15 [.ref s] σ K:=by
 refine rg rfl rfl (rk rfl ?_)
 refine rc (sd h) ?_
 conv=>whnf
 rw[eq_29 h]
 conv=>whnf
 have e:S.keys.length.ble 1000=true:=by
  obtain⟨m,row⟩:=S
  cases row<;>rfl
 rw[e]
 conv=>whnf
 rw[eq_193 (s:=s) (r:=r) (S:=S) ⟨rE h.1,rE h.2⟩]
 refine eq_747 ?_
 have e2:(σ++[Cell.dict S.keys S.vals]).length=σ.length+1:=by simp
 rw[e2,append_assoc]
 exact k
end
end Mine
end
section
namespace Mine
open PySem
noncomputable def asked (S:Sd)(k:Kd):Bool:=match S.row,k with
 | some x,.var=>x.asked
 | _,_=>false
theorem eq_195 {σ:ak}{i:Nat}{c:Cell}(h:σ[i]?=some c):σ.set i c=σ:=by
 apply List.ext_getElem?
 intro j
 by_cases e:i=j
 ·subst e;rw[rV h,h]
 ·rw[rL e]
theorem eq_196 {σ:ak}{s r:Nat}{S:Sd}(h:bB σ s r S):(σ.set r (gu S)).set s (gJ r S)=σ:=by
 rw[eq_195 h.2,eq_195 h.1]
theorem rA {σ:ak}{a:Kd}:fF σ (.p (kD a)) (.p (.int 0))=some (.p (.str a.hdN)):=by
 obtain⟨r,e⟩:=eq_57 a
 rw[e];rfl
noncomputable def aZ (ws:List (List G)):D:=.lst (ws.map fun w=>.lst (cu w))
def aF (S:Sd)(g:G)(ws:List (List G))(S':Sd):Prop:=∀ (n:Nat)(σ:ak) (q s r:Nat) (F:Int)(K:KP),σ[q]?=some (b0 F)→bB σ s r S→(∀ τ:ak,K (.p (aZ ws)) (((σ++τ).set r (gu S')).set s (gJ r S')))→ae an (n+40) 32 [.ref q,.p (gD g),.ref s] σ K
section
variable {n:Nat}{σ:ak}{s r q:Nat}{S:Sd}{K:KP}
theorem sF (hn:3≤n){x:Sd1}(h:bB σ s r S)(hx:S.row=some x)(k:K (d6 x) σ):ae an n 17 [.ref s,.p (.str fx)] σ K:=by
 obtain⟨m,row⟩:=S
 dsimp only at hx
 subst hx
 obtain⟨n,rfl⟩:∃ m,n=m+3:=⟨n - 3,by exact u3 hn rfl⟩
 refine rg rfl rfl (rk rfl ?_)
 refine rc (sd h) ?_
 refine rF (eq_746 h.2) ?_
 refine rc (eq_29 h) ?_
 exact k
theorem mT {c:Bool}{P:Prop}(h:c=true)(p:P):cond c P False:=by rw[h];exact p
theorem eq_8 {a b:Nat}:D.eqv (.str a) (.str b)=(a==b):=rfl
noncomputable def kk:Kd→Bool
 | .var=>true
 | _=>false
theorem eq_9 {a:Kd}:D.eqv (.str a.hdN) (.str aM)=kk a:=by
 rw[eq_8]
 cases a<;>kernel_rfl
theorem eq_10 (hn:5≤n){a:Kd}(h:bB σ s r S)(ho:a=.var→S.row≠none)(k:K (.p (.bool (asked S a))) σ):ae an n 18 [.ref s,.p (kD a)] σ K:=by
 obtain⟨n,rfl⟩:∃ m,n=m+1:=⟨n - 1,by exact rq hn⟩
 refine rg rfl rfl (rk rfl ?_)
 refine rc rA ?_
 conv=>whnf
 rw[eq_9]
 by_cases hv:a=.var
 ·subst hv
  refine rc (rH h) ?_
  conv=>whnf
  cases hx:S.row with
  | none=>exact absurd hx (ho rfl)
  | some x=>
   refine sF (by exact u2 hn rfl) h hx ?_
   unfold asked at k
   rw[hx] at k
   exact k
 ·have e:kk a=false:=by cases a<;>first | rfl | exact absurd rfl hv
  have e2:asked S a=false:=by unfold asked;cases S.row<;>cases a<;>first | rfl | exact absurd rfl hv
  rw[e]
  rw[e2] at k
  exact k
theorem eq_60 (k:Kd)(hn:k.dep+1≤n)(hw:k.wid≤300)(hk:K (.p (.bool (!k.ne))) σ):ae an n 27 [.p (kD k)] σ K:=by
 obtain⟨n,rfl⟩:∃ m,n=m+1:=⟨n - 1,by exact rq hn⟩
 exact eq_718 n k (by exact Nat.le_of_succ_le_succ hn) hw hk
theorem eq_61 (hn':26≤n){a b:Kd}{F:Int}(hq:σ[q]?=some (b0 F))(h:bB σ s r S)(he:a≠b)(hn:dY (.str fD) [.str a.hdN,.str b.hdN]=false)(hd:a.dep≤20)(hw:a.wid≤300)(hne:a.ne=true)(hA:D.eqv (kD b) (kD (.nam ai))=false)(ha:a=.var→S.row≠none)(hb:b=.var→S.row≠none)(ha':asked S a=false)(hb':asked S b=false)
  (k:ae an n 36 [.ref q,.p (kD a),.p (kD b),.ref s] σ K):ae an (n+1) 32 [.ref q,.p (gD (false,a,b)),.ref s] σ K:=by
 show ae an (n+1) 32 [.ref q,.p (.tup [.str bU,kD a,kD b]),.ref s] σ K
 refine rg rfl rfl (rk rfl ?_)
 conv=>whnf
 refine mT (r6 hd) ?_
 rw[rU,decide_eq_false he]
 refine rc rA ?_
 refine rc rA ?_
 refine sr hn ?_
 conv=>whnf
 refine eq_60 a (by exact re (Nat.add_le_add hd hn') (by simp +arith only)) hw ?_
 rw[hne]
 conv=>whnf
 rw[show D.eqv (kD b) (.tup [.str aa,.str ai,.tup []])=false from hA]
 conv=>whnf
 rw[rH h]
 conv=>whnf
 refine eq_10 (by exact re hn' (by simp +arith only)) h ha ?_
 rw[ha']
 conv=>whnf
 rw[rH h]
 conv=>whnf
 refine eq_10 (by exact re hn' (by simp +arith only)) h hb ?_
 rw[hb']
 refine rc (se hq) ?_
 exact k
end
noncomputable def fE:Kd→Bool
 | .uni _=>true
 | _=>false
noncomputable def lM:Kd→Bool
 | .all _ _=>true
 | _=>false
theorem eq_11 {a:Kd}:D.eqv (.str a.hdN) (.str bM)=fE a:=by
 rw[eq_8]
 cases a<;>kernel_rfl
theorem eq_12 {a:Kd}:D.eqv (.str a.hdN) (.str b6)=lM a:=by
 rw[eq_8]
 cases a<;>kernel_rfl
theorem eq_360 {α:Type}{f:α→D}{l:List α}:(List.map PV.p (l.map f)).length=l.length:=by rw[length_map,length_map]
section
variable {n:Nat}{σ:ak}{s r q:Nat}{S:Sd}{K:KP}
theorem eq_750 {w:Bool}{a:Kd}(hd:a.dep≤20)(k:K (.p (aZ [[]])) σ):ae an (n+1) 32 [.ref q,.p (gD (w,a,a)),.ref s] σ K:=by
 show ae an (n+1) 32 [.ref q,.p (.tup [.str (bif w then dP else bU),kD a,kD a]),.ref s] σ K
 refine rg rfl rfl (rk rfl ?_)
 conv=>whnf
 refine mT (r6 hd) ?_
 rw[rU,decide_eq_true rfl]
 exact k
theorem eq_751 {a b:Kd}(hd:a.dep≤20)(he:a≠b)(hn:dY (.str fD) [.str a.hdN,.str b.hdN]=false)(k:K (.p (aZ [[(false,a,b),(false,b,a)]])) σ):ae an (n+1) 32 [.ref q,.p (gD (true,a,b)),.ref s] σ K:=by
 show ae an (n+1) 32 [.ref q,.p (.tup [.str dP,kD a,kD b]),.ref s] σ K
 refine rg rfl rfl (rk rfl ?_)
 conv=>whnf
 refine mT (r6 hd) ?_
 rw[rU,decide_eq_false he]
 refine rc rA ?_
 refine rc rA ?_
 refine sr hn ?_
 exact k
theorem eq_752 {i j:Nat}{F:Int}(hq:σ[q]?=some (b0 F))(h:bB σ s r S)(hn:8≤n)(he:i≠j)(k:K (.p (aZ [])) σ):ae an n 32 [.ref q,.p (gD (true,.num i,.num j)),.ref s] σ K:=by
 obtain⟨n,rfl⟩:∃ m,n=m+1:=⟨n - 1,by exact rq hn⟩
 show ae an (n+1) 32 [.ref q,.p (.tup [.str dP,kD (.num i),kD (.num j)]),.ref s] σ K
 refine rg rfl rfl (rk rfl ?_)
 conv=>whnf
 refine mT (r6 (k:=.num i) (qZ rfl)) ?_
 rw[rU,decide_eq_false (fun e=>he (by injection e))]
 refine rc (se hq) ?_
 conv=>whnf
 obtain⟨n,rfl⟩:∃ m,n=m+1:=⟨n - 1,by exact u4 hn rfl⟩
 refine rg rfl rfl (rk rfl ?_)
 refine rc (rH h) ?_
 conv=>whnf
 refine eq_10 (a:=.num i) (by exact re hn (by simp +arith only)) h (fun h=>nomatch h) ?_
 have e:∀ i,asked S (.num i)=false:=by intro i;unfold asked;cases S.row<;>rfl
 rw[e]
 refine rc (rH h) ?_
 conv=>whnf
 refine eq_10 (a:=.num j) (by exact re hn (by simp +arith only)) h (fun h=>nomatch h) ?_
 rw[e]
 exact k
theorem eq_753 {b:Kd}(hn':3≤n)(he:Kd.bot≠b)(hn:dY (.str fD) [.str Kd.bot.hdN,.str b.hdN]=false)(k:K (.p (aZ [[]])) σ):ae an (n+1) 32 [.ref q,.p (gD (false,.bot,b)),.ref s] σ K:=by
 show ae an (n+1) 32 [.ref q,.p (.tup [.str bU,kD .bot,kD b]),.ref s] σ K
 refine rg rfl rfl (rk rfl ?_)
 conv=>whnf
 rw[rU,decide_eq_false he]
 refine rc rA ?_
 refine sr (show dY (.str fD) [.str aB,.str b.hdN]=false from hn) ?_
 conv=>whnf
 refine eq_60 .bot (Nat.le_of_succ_le hn') (qZ rfl) ?_
 exact k
theorem eq_754 {a:Kd}(hn':22≤n)(hd:a.dep≤20)(hw:a.wid≤300)(he:a≠.nam ai)(hn:dY (.str fD) [.str a.hdN,.str aa]=false)(k:K (.p (aZ [[]])) σ):ae an (n+1) 32 [.ref q,.p (gD (false,a,.nam ai)),.ref s] σ K:=by
 show ae an (n+1) 32 [.ref q,.p (.tup [.str bU,kD a,kD (.nam ai)]),.ref s] σ K
 refine rg rfl rfl (rk rfl ?_)
 conv=>whnf
 refine mT (r6 hd) ?_
 rw[show D.eqv (kD a) (kD (.nam ai))=false from by rw[rU,decide_eq_false he]]
 refine rc rA ?_
 refine sr hn ?_
 conv=>whnf
 refine eq_60 a (by exact re (Nat.add_le_add hd hn') (by simp +arith only)) hw ?_
 cases a.ne
 ·exact k
 ·exact k
theorem eq_755 {a:Kd}{ls:List Kd}(hu:fE a=false)(ha:lM a=false)(hv:kk a=false)(hl:ls.length≤300)(k:K (.p (aZ (ls.map fun l=>[(false,a,l)]))) σ):ae an (n+1) 36 [.ref q,.p (kD a),.p (kD (.uni ls)),.ref s] σ K:=by
 refine rg rfl rfl (rk rfl ?_)
 refine rc rA ?_
 conv=>whnf
 rw[eq_11,hu]
 refine rc rA ?_
 conv=>whnf
 rw[eq_12,ha]
 conv=>whnf
 rw[rD,rj (by exact u1 hl rfl)]
 conv=>whnf
 refine eq_26 (g:=fun l=>.lst [gD (false,a,l)]) rM (fun x hx K hK=>hK) ?_
 refine rc rA ?_
 conv=>whnf
 rw[eq_9,hv]
 conv=>whnf
 rw[eq_360,rj (by simp;exact u1 hl rfl)]
 conv=>whnf
 have e:(ls.map fun l=>D.lst [gD (false,a,l)])=(ls.map fun l=>[(false,a,l)]).map fun w=>.lst (cu w):=by
  rw[List.map_map];rfl
 rw[List.map_nil,append_nil,rR,e]
 exact k
theorem eq_756 {a b:Kd}{F:Int}(hq:σ[q]?=some (b0 F))(hu:fE a=false)(ha:lM a=false)(hv:kk a=false)(hu':fE b=false)(ha':lM b=false)(hv':kk b=false)(k:ae an n 38 [.ref q,.p (kD a),.p (kD b)] σ K):ae an (n+1) 36 [.ref q,.p (kD a),.p (kD b),.ref s] σ K:=by
 refine rg rfl rfl (rk rfl ?_)
 conv=>whnf
 rw[rA]
 conv=>whnf
 rw[eq_11,hu]
 conv=>whnf
 rw[rA]
 conv=>whnf
 rw[eq_12,ha]
 conv=>whnf
 rw[rA]
 conv=>whnf
 rw[eq_11,hu']
 conv=>whnf
 rw[rA]
 conv=>whnf
 rw[eq_12,ha']
 conv=>whnf
 rw[rA]
 conv=>whnf
 rw[eq_9,hv]
 conv=>whnf
 rw[rA]
 conv=>whnf
 rw[eq_9,hv']
 refine rc (se hq) ?_
 exact k
theorem eq_757 {x:Sd1}{b:Nat}{ls:List Kd}(hn:8≤n)(h:bB σ s r S)(hx:S.row=some x)(hb:x.ups=[.nam b])(hl:ls.length≤300)(k:K (.p (aZ ((ls.map fun l=>[(false,.var,l)])++[[(false,.nam b,.uni ls)]]))) σ):ae an (n+1) 36 [.ref q,.p (kD .var),.p (kD (.uni ls)),.ref s] σ K:=by
 refine rg rfl rfl (rk rfl ?_)
 conv=>whnf
 rw[rD,rj (by exact u1 hl rfl)]
 conv=>whnf
 refine eq_26 (g:=fun l=>.lst [gD (false,.var,l)]) rM (fun x hx K hK=>hK) ?_
 conv=>whnf
 rw[rH h]
 conv=>whnf
 refine sF (by exact re hn (by simp +arith only)) h hx ?_
 obtain⟨asked,los,ups,diag⟩:=x
 dsimp only at hb
 subst hb
 obtain⟨n,rfl⟩:∃ m,n=m+3:=⟨n - 3,by exact u3 hn rfl⟩
 conv=>whnf
 rw[eq_360,rj (by simp;exact u1 hl rfl)]
 conv=>whnf
 have e:(ls.map fun l=>D.lst [gD (false,.var,l)])=(ls.map fun l=>[(false,.var,l)]).map fun w=>.lst (cu w):=by
  rw[List.map_map];rfl
 rw[← map_append,rR,e]
 have e2:∀ (A:List (List G))(g:G),aZ (A++[[g]])=.lst ((A.map fun w=>D.lst (cu w))++[.lst [gD g]]):=by
  intro A g;simp[aZ,cu]
 rw[e2] at k
 exact k
theorem eq_758 {x:Sd1}{b:Nat}{c:Kd}(hn:8≤n)(h:bB σ s r S)(hx:S.row=some x)(hb:x.ups=[.nam b])(hA:b≠ai)(hu':fE c=false)(ha':lM c=false)(hv':kk c=false)(k:K (.p (aZ [[(false,.nam b,c)]])) σ):ae an (n+1) 36 [.ref q,.p (kD .var),.p (kD c),.ref s] σ K:=by
 refine rg rfl rfl (rk rfl ?_)
 refine rc rA ?_
 conv=>whnf
 rw[eq_11,hu']
 refine rc rA ?_
 conv=>whnf
 rw[eq_12,ha']
 conv=>whnf
 rw[rH h]
 conv=>whnf
 refine sF (by exact re hn (by simp +arith only)) h hx ?_
 obtain⟨asked,los,ups,diag⟩:=x
 dsimp only at hb
 subst hb
 obtain⟨n,rfl⟩:∃ m,n=m+3:=⟨n - 3,by exact u3 hn rfl⟩
 have e:D.eqv (bJ b) (bJ ai)=false:=by
  cases h:D.eqv (bJ b) (bJ ai)
  ·rfl
  ·exact absurd (eq_347 h) hA
 have e2:D.eqv (kD (.nam b)) (.tup [.str aa,.str ai,.tup []])=false:=e
 conv=>whnf
 refine e2.symm▸?_
 refine rc rA ?_
 conv=>whnf
 rw[eq_9,hv']
 exact k
theorem eq_759 {x:Sd1}{a:Kd}(hn:8≤n)(h:bB σ s r S)(hx:S.row=some x)(hb:x.los=[])(hu':fE a=false)(ha':lM a=false)(hv':kk a=false)(k:K (.p (aZ [])) σ):ae an (n+1) 36 [.ref q,.p (kD a),.p (kD .var),.ref s] σ K:=by
 refine rg rfl rfl (rk rfl ?_)
 refine rc rA ?_
 conv=>whnf
 rw[eq_11,hu']
 refine rc rA ?_
 conv=>whnf
 rw[eq_12,ha']
 refine rc rA ?_
 conv=>whnf
 rw[eq_9,hv']
 conv=>whnf
 rw[rH h]
 conv=>whnf
 refine sF (by exact re hn (by simp +arith only)) h hx ?_
 obtain⟨asked,los,ups,diag⟩:=x
 dsimp only at hb
 subst hb
 obtain⟨n,rfl⟩:∃ m,n=m+3:=⟨n - 3,by exact u3 hn rfl⟩
 exact k
end
noncomputable def qg:Option Nat→Kd
 | some m=>.nam m
 | none=>.bot
noncomputable def zg:List Kd→List Kd→Option Nat→List G
 | [],_,_=>[]
 | k::ks,[],t=>(false,k,qg t)::zg ks [] t
 | k::ks,l::ls,t=>(false,k,l)::zg ks ls t
noncomputable def tw (ks:List Kd)(r:Option Nat)(ls:List Kd)(t:Option Nat):List (List G):=
 bif decide (ks.length<ls.length)||(!t.isSome&&(r.isSome||decide (ls.length<ks.length))) then [] else [zg ks ls t++match r with
  | none=>[]
  | some m=>[(false,.nam m,qg t)]]
noncomputable def qF (ks ls:List Kd)(t:Option Nat) (i:Nat):G:=(false,ks.getD i .bot,bif Nat.blt i ls.length then ls.getD i .bot else qg t)
theorem eq_760 {t:Option Nat} (i:Nat):∀ {ks ls:List Kd},i<ks.length→(zg ks ls t)[i]?=some (qF ks ls t i):=by
 induction i with
 | zero=>
  intro ks ls h
  cases ks with
  | nil=>exact absurd h (Nat.lt_irrefl 0)
  | cons k ks=>cases ls<;>rfl
 | succ i ih=>
  intro ks ls h
  cases ks with
  | nil=>exact absurd h (Nat.not_lt_zero _)
  | cons k ks=>cases ls with
   | nil=>exact ih (ls:=[]) (Nat.lt_of_succ_lt_succ h)
   | cons l ls=>exact ih (ls:=ls) (Nat.lt_of_succ_lt_succ h)
theorem eq_30 {t:Option Nat}(ks:List Kd):∀ ls,(zg ks ls t).length=ks.length:=by
 induction ks with
 | nil=>exact fun J=>rfl
 | cons k ks ih=>exact fun ls=>by cases ls<;>exact congrArg (·+1) (ih _)
theorem eq_761 {F:PV→ak→(List D→ak→Prop)→Prop}{vi:PV}{all:List PV}{σ:ak}(hv:∀ R,R→dE vi all σ R)(zs:List D):∀ {a:Nat}{K:List D→ak→Prop},(∀ i z,zs[i]?=some z→∀ K:List D→ak→Prop,K [z] σ→F (.p (.int ((a+i:Nat):Int))) σ K)→K zs σ→dh vi all F (bz zs.length a) σ K:=by
 induction zs with
 | nil=>exact fun J k=>hv _ k
 | cons z zs ih=>exact fun {a K} h k=>hv _ (h 0 z rfl _ (ih (a:=a+1) (fun i y hy=>by rw[Nat.add_right_comm];exact h (i+1) y hy) k))
theorem eq_361 {σ:ak}{ks:List Kd}{i:Nat}(h:i<ks.length)(hl:ks.length≤300):fF σ (.p (.tup (kDs ks))) (.p (.int i))=some (.p (kD (ks.getD i .bot))):=by
 show (bif Nat.ble i 1000000 then ((kDs ks).map PV.p)[i]? else none)=_
 rw[rj (u1 (Nat.le_trans (Nat.le_of_lt h) hl) rfl),eq_25,cond_true,List.getElem?_map,List.getElem?_map,List.getD_eq_getElem?_getD,List.getElem?_eq_getElem h]
 rfl
theorem eq_762 {n:Nat}:∀ {a:Nat},(bz n a).length=n:=by
 induction n with
 | zero=>exact rfl
 | succ n ih=>exact congrArg (·+1) ih
theorem eq_362 {n:Nat}{ks:List Kd}{r:Option Nat}{σ:ak}{K:KP}(k:K (.p (mX r)) σ):ae an (n+3) 28 [.p (kD (.tup ks r))] σ K:=by
 refine rg rfl rfl (rJ rfl rfl ?_)
 cases r<;>exact k
theorem eq_105 {a b:Nat}:decide ((a:Int)<(b:Int))=Nat.blt a b:=by
 cases h:Nat.blt a b with
 | true=>exact decide_eq_true (Int.ofNat_lt.mpr (Nat.le_of_ble_eq_true h))
 | false=>exact decide_eq_false fun q=>ff (h.symm.trans (Nat.ble_eq_true_of_le (Int.ofNat_lt.mp q)))
theorem eq_763 {l all:List PV}{σ:ak}:∀ R,R→dE (.mix l) all σ R:=fun J r=>r
theorem eq_106 {gs:List G}:(List.map PV.p (cu gs)).length=gs.length:=by rw[length_map,cu,length_map]
theorem sV {ks ls:List Kd}{r t:Option Nat}(h:(decide (ks.length<ls.length)||(!t.isSome&&(r.isSome||decide (ls.length<ks.length))))=true):tw ks r ls t=[]:=by unfold tw;rw[h];rfl
theorem eq_13 {ks ls:List Kd}{t:Option Nat}(h:(decide (ks.length<ls.length)||(!t.isSome&&decide (ls.length<ks.length)))=false):tw ks none ls t=[zg ks ls t]:=by unfold tw;rw[show (Option.isSome (none:Option Nat)||decide (ls.length<ks.length))=decide (ls.length<ks.length) from rfl,h];exact congrArg (fun x=>[x]) (append_nil _)
theorem eq_363 {ks ls:List Kd}{m o:Nat}(h:decide (ks.length<ls.length)=false):tw ks (some m) ls (some o)=[zg ks ls (some o)++[(false,.nam m,.nam o)]]:=by unfold tw;rw[h];rfl
noncomputable def qU (ks ls:List Kd)(r t:Option Nat):aN:=[(aw,.p (kD (.tup ks r))),(am,.p (kD (.tup ls t))),(eJ,.p (.tup (kDs ks))),(iv,.p (mX r)),(cR,.p (.tup (kDs ls))),(fo,.p (mX t))]
theorem eq_197 {Φ:b9}{ks ls:List Kd}{r t:Option Nat}{K:KP}(hk:ks.length≤300)(hl:ls.length≤300)(hn:t=none→ks.length≤ls.length)(k:K (.p (.lst (cu (zg ks ls t)))) []):bR an.tab Φ qC (qU ks ls r t) [] K:=by
 conv=>whnf
 rw[rD]
 refine cT (rj (u1 hk rfl)) (cT (rj (u1 hk rfl)) (cT (by rw[eq_762];exact rj (u1 hk rfl)) ?_))
 have e:ks.length=(cu (zg ks ls t)).length:=by rw[cu,length_map,eq_30]
 rw[show dh _ _ _ (bz ks.length 0)=dh _ _ _ (bz (cu (zg ks ls t)).length 0) by rw[e]]
 refine eq_761 eq_763 (cu (zg ks ls t)) (fun i z hz K hK=>?_) k
 have hi:i<ks.length:=by rw[e];exact(List.getElem?_eq_some_iff.mp hz).1
 rw[cu,List.getElem?_map,eq_760 i hi] at hz
 cases hz
 rw[Nat.zero_add]
 conv=>whnf
 rw[eq_361 hi hk]
 refine cT (sw (u1 hl rfl)) ?_
 unfold qF at hK
 cases h2:Nat.blt i ls.length with
 | true=>
  rw[h2] at hK
  refine cY (by rw[rD];exact eq_105.trans h2) ?_
  refine rc (eq_361 (Nat.le_of_ble_eq_true h2) hl) ?_
  exact hK
 | false=>
  rw[h2] at hK
  refine cF (by rw[rD];exact eq_105.trans h2) ?_
  cases t with
  | none=>exact absurd (Nat.lt_of_lt_of_le hi (hn rfl)) fun q=>ff (h2.symm.trans (Nat.ble_eq_true_of_le q))
  | some o=>exact hK
theorem eq_764 {n:Nat}(hn:5≤n){ks ls:List Kd}{r t:Option Nat}{σ:ak}{K:KP}(hk:ks.length≤300)(hl:ls.length≤300)(k:K (.p (aZ (tw ks r ls t))) σ):ae an n 45 [.p (kD (.tup ks r)),.p (kD (.tup ls t))] σ K:=by
 obtain⟨n,rfl⟩:∃ m,n=m+5:=⟨n - 5,u3 hn rfl⟩
 refine rg rfl rfl (rJ rfl rfl ?_)
 generalize hm:n+4=m
 conv=>whnf
 subst hm
 refine eq_362 ?_
 generalize hm:n+4=m
 conv=>whnf
 subst hm
 refine eq_362 (cT (sw (u1 hk rfl)) (cT (sw (u1 hl rfl)) ?_))
 conv=>whnf
 rw[rD,rD,eq_105]
 have hz:(zg ks ls t).length≤300:=by rw[eq_30];exact hk
 cases h1:Nat.blt ks.length ls.length with
 | true=>
  rw[sV (oL (decide_eq_true (Nat.le_of_ble_eq_true h1)))] at k
  exact k
 | false=>
  have h1':decide (ks.length<ls.length)=false:=decide_eq_false fun q=>ff (h1.symm.trans (Nat.ble_eq_true_of_le q))
  cases t with
  | none=>
   cases r with
   | some r=>
    rw[sV (r:=some r) (t:=none) (oR rfl)] at k
    exact k
   | none=>
    refine cT (sw (u1 hk rfl)) (cT (sw (u1 hl rfl)) ?_)
    conv=>whnf
    rw[rD,rD,eq_105]
    cases h4:Nat.blt ls.length ks.length with
    | true=>
     rw[sV (r:=none) (t:=none) (oR (decide_eq_true (Nat.le_of_ble_eq_true h4)))] at k
     exact k
    | false=>
     rw[eq_13 (t:=none) (by rw[h1'];exact decide_eq_false fun q=>ff (h4.symm.trans (Nat.ble_eq_true_of_le q)))] at k
     refine eq_197 (r:=none) hk hl (fun J=>Nat.le_of_not_lt fun q=>ff (h4.symm.trans (Nat.ble_eq_true_of_le q))) ?_
     refine cT (by rw[length_map,cu,length_map];exact rj (u1 hz rfl)) ?_
     conv=>whnf
     rw[List.map_nil,append_nil,rR]
     exact k
  | some t=>
   cases r with
   | none=>
    rw[eq_13 (t:=some t) (by rw[h1'];rfl)] at k
    refine eq_197 (r:=none) hk hl (fun e=>nomatch e) ?_
    refine cT (by rw[length_map,cu,length_map];exact rj (u1 hz rfl)) ?_
    conv=>whnf
    rw[List.map_nil,append_nil,rR]
    exact k
   | some m=>
    rw[eq_363 h1'] at k
    refine eq_197 (r:=some m) hk hl (fun e=>nomatch e) ?_
    refine cT (by rw[length_map,cu,length_map];exact rj (u9 hz rfl)) ?_
    conv=>whnf
    rw[← map_append,rR]
    have e2:cu (zg ks ls (some t))++[gD (false,.nam m,.nam t)]=cu (zg ks ls (some t)++[(false,.nam m,.nam t)]):=by unfold cu;rw[map_append];rfl
    have k:K (.p (.lst [.lst (cu (zg ks ls (some t)++[(false,.nam m,.nam t)]))])) σ:=k
    rw[← e2] at k
    exact k
noncomputable def jQ (x:Nat×List D):D:=.tup [.str aa,.str x.1,.tup x.2]
theorem eq_62 {a b:Nat}(h:a≠b):(a==b)=false:=beq_eq_false_iff_ne.mpr h
def iK (rest:aN):Prop:=rest=[]∨∃ A,rest=[(aE,A)]
theorem eq_364 {Φ:b9}{v1 v2:PV}{x:Nat×List D}{o:Nat}{ps:List D}{σ:ak}{K:KR}{rest:aN}(hr:iK rest)(k0:x.1≠o→∀ rest,iK rest→K .next ((ah,v1)::(aw,v2)::(am,.p (jQ (o,ps)))::rest) σ)(k1:x.2=[]∧x.1=o→∀ ρ,K (.ret (.p (aZ [[]]))) ρ σ)(hx:x.1≠o∨x.2=[]) :
  (match bo (.one aE) (.p (jQ x)) ((ah,v1)::(aw,v2)::(am,.p (jQ (o,ps)))::rest) with
   | some ρ'=>bu an.tab Φ nK ρ' σ K
   | none=>False):=by
 obtain⟨x1,x2⟩:=x
 by_cases e:x1=o
 ·cases hx.resolve_left fun q=>q e
  have h1:D.eqv (.str x1) (.str o)=true:=e▸eq_56 _
  rcases hr with rfl | ⟨A,rfl⟩
  all_goals
   refine rF h1 ?_
   exact k1 ⟨rfl,e⟩ _
 ·have h1:D.eqv (.str x1) (.str o)=false:=eq_62 e
  rcases hr with rfl | ⟨A,rfl⟩
  all_goals
   refine sr h1 ?_
   exact k0 e _ (.inr ⟨_,rfl⟩)
theorem eq_365 {Φ:b9}{v1 v2:PV}{o:Nat}{ps:List D}{vi:PV}{all:List PV}{σ:ak}{K:KR}(hv:∀ R,R→dE vi all σ R)(k:∀ rest,iK rest→K .next ((ah,v1)::(aw,v2)::(am,.p (jQ (o,ps)))::rest) σ){l:List (Nat×List D)}:∀ {rest:aN},iK rest→(∀ x∈l,x.1≠o)→
  hZ vi all (fun x ρ σ K=>match bo (.one aE) x ρ with
   | some ρ'=>bu an.tab Φ nK ρ' σ K
   | none=>False) (List.map PV.p (l.map jQ)) ((ah,v1)::(aw,v2)::(am,.p (jQ (o,ps)))::rest) σ K:=by
 induction l with
 | nil=>exact fun hr J=>hv _ (k _ hr)
 | cons x l ih=>
  intro rest hr h
  have hx:=h x mem_cons_self
  exact hv _ (eq_364 hr (fun J rest hr=>ih hr fun y hy=>h y (mem_cons_of_mem _ hy)) (fun e=>absurd e.2 hx) (.inl hx))
theorem eq_765 {Φ:b9}{v1 v2:PV}{o:Nat}{ps:List D}{vi:PV}{all:List PV}{σ:ak}{K:KR}(hv:∀ R,R→dE vi all σ R)(k:∀ ρ,K (.ret (.p (aZ [[]]))) ρ σ){l:List Nat}:∀ {rest:aN},iK rest→o∈l→
  hZ vi all (fun x ρ σ K=>match bo (.one aE) x ρ with
   | some ρ'=>bu an.tab Φ nK ρ' σ K
   | none=>False) (List.map PV.p (l.map bJ)) ((ah,v1)::(aw,v2)::(am,.p (jQ (o,ps)))::rest) σ K:=by
 induction l with
 | nil=>exact fun J h=>absurd h not_mem_nil
 | cons x l ih=>
  intro rest hr h
  exact hv _ (eq_364 (x:=(x,[])) hr (fun e rest hr=>ih hr ((mem_cons.mp h).resolve_left fun q=>e q.symm)) (fun J=>k) (.inr rfl))
theorem eq_63 {P:Nat→Prop}(a:P aG)(b:P cz)(c:P av)(d:P bk)(e:P aA)(f:P aO)(g:P ay) (m:Nat)(h:m∈ao):P m:=by
 have go:∀ {x:Nat}{l:List Nat},P x→(m∈l→P m)→m∈x::l→P m:=fun p q h=>(mem_cons.mp h).elim (fun e=>e▸p) q
 exact go a (go b (go c (go d (go e (go f (go g fun h=>absurd h not_mem_nil)))))) h
theorem eq_766 {n m:Nat}(hm:m∈ao){σ:ak}{K:KP}(k:K (.p (.lst ((chain m).map bJ))) σ):ae an (n+30) 54 [KV,.p (bJ m)] σ K:=by
 revert k
 have go:∀ {x},(ae an (n+30) 54 [KV,.p (bJ x)] σ K=K (.p (.lst ((chain x).map bJ))) σ)→K (.p (.lst ((chain x).map bJ))) σ→ae an (n+30) 54 [KV,.p (bJ x)] σ K:=fun e=>e.mpr
 refine eq_63 (P:=fun m=>K (.p (.lst ((chain m).map bJ))) σ→ae an (n+30) 54 [KV,.p (bJ m)] σ K) (go (eq_737 n)) (go (eq_738 n)) (go (eq_739 n)) (go (eq_740 n)) (go (eq_741 n)) (go (eq_742 n)) (go (eq_743 n)) m hm
section
variable {n:Nat}{σ:ak}{s r q:Nat}{S:Sd}{K:KP}{F:Int}
theorem eq_767 {m o:Nat}{ps:List D}(hq:σ[q]?=some (b0 F))(hm:m∈ao)(hn:31≤n)(k:K (.p (aZ (if o∈chain m then [[]] else []))) σ):ae an n 39 [.ref q,.p (bJ m),.p (jQ (o,ps))] σ K:=by
 obtain⟨n,rfl⟩:∃ m,n=m+31:=⟨n - 31,u3 hn rfl⟩
 refine rg rfl rfl (rk rfl ?_)
 generalize hN:n+30=N
 refine rc (eq_104 hq) ?_
 conv=>whnf
 subst hN
 refine eq_766 hm ?_
 by_cases h:o∈chain m
 ·rw[if_pos h] at k
  exact eq_765 (rest:=[]) rM (fun ρ=>k) (.inl rfl) h
 ·rw[if_neg h] at k
  rw[show (chain m).map bJ=((chain m).map fun x=>(x,([]:List D))).map jQ by rw[List.map_map];rfl]
  refine eq_365 (rest:=[]) rM (fun rest hr=>?_) (.inl rfl) (fun x hx e=>?_)
  ·rcases hr with rfl | ⟨A,rfl⟩<;>exact k
  ·obtain⟨y,hy,rfl⟩:=List.mem_map.mp hx
   exact h (e▸hy)
theorem eq_366 {a:D}{o:Nat}{ps:List D}{l:List (Nat×List D)}(hq:σ[q]?=some (b0 F))(hs:∀ {σ:ak}{K:KP},K (.p (.lst (l.map jQ))) σ→ae an n 54 [KV,.p a] σ K)(h:∀ x∈l,x.1≠o)(k:K (.p (aZ [])) σ):ae an (n+1) 39 [.ref q,.p a,.p (jQ (o,ps))] σ K:=by
 refine rg rfl rfl (rk rfl ?_)
 refine rc (eq_104 hq) ?_
 conv=>whnf
 refine hs (eq_365 (rest:=[]) rM (fun rest hr=>?_) (.inl rfl) h)
 rcases hr with rfl | ⟨A,rfl⟩<;>exact k
theorem eq_198 {a:D}{o:Nat}{a1 a2 b1 b2:D}{l:List (Nat×List D)}(hq:σ[q]?=some (b0 F))(hs:∀ {σ:ak}{K:KP},K (.p (.lst (((o,[a1,a2])::l).map jQ))) σ→ae an n 54 [KV,.p a] σ K)(k:K (.p (.lst [.lst [.tup [.str dP,a1,b1],.tup [.str dP,a2,b2]]])) σ):ae an (n+1) 39 [.ref q,.p a,.p (jQ (o,[b1,b2]))] σ K:=by
 refine rg rfl rfl (rk rfl ?_)
 refine rc (eq_104 hq) ?_
 conv=>whnf
 refine hs ?_
 refine rF (show D.eqv (.str o) (.str o)=true from eq_56 _) ?_
 exact k
theorem eq_31 {a b:Kd}{o1 o2:Nat}{p1 p2:List D}(ea:kD a=jQ (o1,p1))(eb:kD b=jQ (o2,p2))(hq:σ[q]?=some (b0 F))(k:ae an n 39 [.ref q,.p (jQ (o1,p1)),.p (jQ (o2,p2))] σ K):ae an (n+1) 38 [.ref q,.p (kD a),.p (kD b)] σ K:=by
 rw[ea,eb]
 refine rg rfl rfl (rk rfl ?_)
 refine rc (se hq) ?_
 exact k
theorem eq_199 {m o:Nat}{ps:List D}{b:Kd}(eb:kD b=jQ (o,ps))(hq:σ[q]?=some (b0 F))(hm:m∈ao)(hn:32≤n)(k:K (.p (aZ (if o∈chain m then [[]] else []))) σ):ae an n 38 [.ref q,.p (kD (.nam m)),.p (kD b)] σ K:=by
 obtain⟨n,rfl⟩:∃ m,n=m+1:=⟨n - 1,u3 hn rfl⟩
 exact eq_31 rfl eb hq (eq_767 hq hm (Nat.le_of_succ_le_succ hn) k)
noncomputable def lh (m i:Nat):List (Nat×List D):=[(bg,[bJ m,.tup [.str fD,.int i]]),(aD,[bJ m,.tup [.str fD,.int i]]),(ai,[])]
noncomputable def mL:List (Nat×List D):=[(bg,[vD fx,.tup [.str fD,.int 1]]),(aD,[vD fx,.tup [.str fD,.int 1]]),(ai,[])]
theorem eq_768:∀ x∈[bg,aD,ai],x∉ao:=by decide +kernel
theorem eq_367 {o:Nat}(ho:o∈ao){l:List (Nat×List D)}(h:l.map Prod.fst=[bg,aD,ai]):∀ x∈l,x.1≠o:=fun x hx e=>eq_768 x.1 (h▸List.mem_map.mpr ⟨x,hx,rfl⟩) (e▸ho)
theorem eq_769 {m i o:Nat}(hq:σ[q]?=some (b0 F))(ho:o∈ao)(hn:32≤n)(k:K (.p (aZ [])) σ):ae an n 38 [.ref q,.p (kD (.arr m i)),.p (kD (.nam o))] σ K:=by
 obtain⟨n,rfl⟩:∃ m,n=m+32:=⟨n - 32,u3 hn rfl⟩
 refine eq_31 (o1:=bg) (o2:=o) (p2:=[]) rfl rfl hq (eq_366 (l:=lh m i) hq (fun {σ K} h=>Eq.mpr (eq_192 n m i) h) (eq_367 ho rfl) k)
theorem eq_770 {o:Nat}(hq:σ[q]?=some (b0 F))(ho:o∈ao)(hn:32≤n)(k:K (.p (aZ [])) σ):ae an n 38 [.ref q,.p (kD .arv),.p (kD (.nam o))] σ K:=by
 obtain⟨n,rfl⟩:∃ m,n=m+32:=⟨n - 32,u3 hn rfl⟩
 refine eq_31 (o1:=bg) (o2:=o) (p2:=[]) rfl rfl hq (eq_366 (l:=mL) hq (fun {σ K} h=>Eq.mpr (eq_356 n) h) (eq_367 ho rfl) k)
theorem eq_771 {m i o j:Nat}(hq:σ[q]?=some (b0 F))(hn:32≤n)(k:K (.p (aZ [[(true,.nam m,.nam o),(true,.num i,.num j)]])) σ):ae an n 38 [.ref q,.p (kD (.arr m i)),.p (kD (.arr o j))] σ K:=by
 obtain⟨n,rfl⟩:∃ m,n=m+32:=⟨n - 32,u3 hn rfl⟩
 exact eq_31 (o1:=bg) (o2:=bg) rfl rfl hq (eq_198 (l:=(lh m i).tail) hq (fun {σ K} h=>Eq.mpr (eq_192 n m i) h) k)
theorem eq_772 {m i:Nat}(hq:σ[q]?=some (b0 F))(hn:32≤n)(k:K (.p (aZ [[(true,.nam m,.var),(true,.num i,.num 1)]])) σ):ae an n 38 [.ref q,.p (kD (.arr m i)),.p (kD .arv)] σ K:=by
 obtain⟨n,rfl⟩:∃ m,n=m+32:=⟨n - 32,u3 hn rfl⟩
 exact eq_31 (o1:=bg) (o2:=bg) rfl rfl hq (eq_198 (l:=(lh m i).tail) hq (fun {σ K} h=>Eq.mpr (eq_192 n m i) h) k)
theorem eq_773 {o j:Nat}(hq:σ[q]?=some (b0 F))(hn:32≤n)(k:K (.p (aZ [[(true,.var,.nam o),(true,.num 1,.num j)]])) σ):ae an n 38 [.ref q,.p (kD .arv),.p (kD (.arr o j))] σ K:=by
 obtain⟨n,rfl⟩:∃ m,n=m+32:=⟨n - 32,u3 hn rfl⟩
 exact eq_31 (o1:=bg) (o2:=bg) rfl rfl hq (eq_198 (l:=mL.tail) hq (fun {σ K} h=>Eq.mpr (eq_356 n) h) k)
theorem eq_774 {ks ls:List Kd}{r t:Option Nat}(hn:6≤n)(hk:ks.length≤300)(hl:ls.length≤300)(k:K (.p (aZ (tw ks r ls t))) σ):ae an n 38 [.ref q,.p (kD (.tup ks r)),.p (kD (.tup ls t))] σ K:=by
 obtain⟨n,rfl⟩:∃ m,n=m+1:=⟨n - 1,u3 hn rfl⟩
 refine rg rfl rfl (rk rfl ?_)
 conv=>whnf
 exact eq_764 (Nat.le_of_succ_le_succ hn) hk hl k
theorem eq_775 {m o:Nat}(hn:1≤n)(k:K (.p (aZ [[(true,.nam m,.nam o)]])) σ):ae an n 38 [.ref q,.p (kD (.typ m)),.p (kD (.typ o))] σ K:=by
 obtain⟨n,rfl⟩:∃ m,n=m+1:=⟨n - 1,u3 hn rfl⟩
 refine rg rfl rfl (rk rfl ?_)
 exact k
noncomputable def nM (a b:Kd):Bool:=!(a.hdN==aa&&b.hdN==aa)&&(!(a.hdN==bd&&b.hdN==bd)&&(!(a.hdN==be&&b.hdN==be)&&(!(a.hdN==be&&D.eqv (kD b) (bJ dJ))&&!(a.hdN==gc&&D.eqv (kD b) (bJ bV)))))
theorem mF {c:Bool}{A B:Prop}(h:c=false)(p:B):cond c A B:=by rw[h];exact p
theorem eq_64 {b:Bool}(h:(!b)=true):b=false:=by cases b<;>first | rfl | exact ff h
theorem eq_200 {a b x y:Nat}:D.eqv (.tup [.str a,.str b]) (.tup [.str x,.str y])=(a==x&&b==y):=congrArg (a==x&&·) (Bool.and_true _)
theorem eq_776 {a b:Kd}(hn:1≤n)(h:nM a b=true)(k:K (.p (aZ [])) σ):ae an n 38 [.ref q,.p (kD a),.p (kD b)] σ K:=by
 obtain⟨n,rfl⟩:∃ m,n=m+1:=⟨n - 1,u3 hn rfl⟩
 have h2:=(aT h).2
 have h3:=(aT h2).2
 have h4:=(aT h3).2
 refine rg rfl rfl (rk rfl ?_)
 refine rc rA ?_
 refine rc rA ?_
 refine mF (eq_200.trans (eq_64 (aT h).1)) (mF (eq_200.trans (eq_64 (aT h2).1)) (mF (eq_200.trans (eq_64 (aT h3).1)) ?_))
 have k5:a.hdN==gc→D.eqv (kD b) (.tup [.str aa,.str bV,.tup []])=false:=fun q=>by
  have w:=eq_64 (aT h4).2
  rw[q,Bool.true_and] at w
  exact w
 have k4:a.hdN==be→D.eqv (kD b) (.tup [.str aa,.str dJ,.tup []])=false:=fun q=>by
  have w:=eq_64 (aT h4).1
  rw[q,Bool.true_and] at w
  exact w
 refine rc rA ?_
 conv=>whnf
 rw[eq_8]
 cases q1:a.hdN==be with
 | true=>
  conv=>whnf
  rw[k4 q1]
  conv=>whnf
  rw[rA]
  conv=>whnf
  rw[eq_8]
  cases q2:a.hdN==gc with
  | true=>
   conv=>whnf
   rw[k5 q2]
   exact k
  | false=>exact k
 | false=>
  conv=>whnf
  rw[rA]
  conv=>whnf
  rw[eq_8]
  cases q2:a.hdN==gc with
  | true=>
   conv=>whnf
   rw[k5 q2]
   exact k
  | false=>exact k
end
end Mine
end
section
set_option genSizeOf false
set_option genCtorIdx false
set_option genInjectivity false
namespace Mine
open PySem
noncomputable def jP:Kd→Bool
 | .num _=>true
 | _=>false
theorem eq_777 {a:Kd}:(a.hdN==fD)=jP a:=by cases a<;>kernel_rfl
structure Ord (a:Kd):Prop where
 n:jP a=false
 d:a.dep≤20
 w:a.wid≤300
structure Left (a:Kd):Prop extends Ord a where
 u:fE a=false
 al:lM a=false
 v:kk a=false
 e:a.ne=true
theorem eq_14 {S:Sd}{a:Kd}(h:kk a=false):asked S a=false:=by
 unfold asked
 cases S.row<;>cases a<;>first | rfl | cases h
theorem sG {a b:Kd}(ha:jP a=false)(hb:jP b=false):dY (.str fD) [.str a.hdN,.str b.hdN]=false:=by
 have e:∀ x:Nat,D.eqv (.str x) (.str fD)=(x==fD):=fun x=>eq_8
 simp only[dY,List.any_cons,List.any_nil,e,eq_777,ha,hb]
 rfl
theorem tf {S:Sd}{g:G}{ws:List (List G)}(h:∀ {n:Nat}{σ:ak}{q s r:Nat}{F:Int}{K:KP},σ[q]?=some (b0 F)→bB σ s r S→K (.p (aZ ws)) σ→ae an (n+40) 32 [.ref q,.p (gD g),.ref s] σ K):aF S g ws S:=by
 intro n σ q s r F K hq hs k
 have k:=k []
 rw[append_nil,eq_196 hs] at k
 exact h hq hs k
theorem sH {S:Sd}{w:Bool}{a:Kd}(hd:a.dep≤20):aF S (w,a,a) [[]] S:=tf fun J J k=>eq_750 hd k
theorem eq_201 {S:Sd}{a b:Kd}(hd:a.dep≤20)(he:a≠b)(ha:jP a=false)(hb:jP b=false):aF S (true,a,b) [[(false,a,b),(false,b,a)]] S:=tf fun J J k=>eq_751 hd he (sG ha hb) k
theorem eq_368 {S:Sd}{i j:Nat}(he:i≠j):aF S (true,.num i,.num j) [] S:=tf fun hq hs k=>eq_752 hq hs (by exact qZ rfl) he k
theorem eq_369 {S:Sd}{a:Kd}(o:Ord a)(he:a≠.nam ai):aF S (false,a,.nam ai) [[]] S:=tf fun J J k=>eq_754 (by exact qZ rfl) o.d o.w he (sG (b:=.nam ai) o.n rfl) k
theorem eq_778 {S:Sd}{b:Kd}(he:b≠.bot)(hb:jP b=false):aF S (false,.bot,b) [[]] S:=tf fun J J k=>eq_753 (by exact qZ rfl) (Ne.symm he) (sG (a:=.bot) rfl hb) k
theorem eq_32 {b:Kd}(hA:b≠.nam ai):D.eqv (kD b) (kD (.nam ai))=false:=by
 rw[rU,decide_eq_false hA]
theorem eq_370 {S:Sd}{a b:Kd}{ws:List (List G)}(l:Left a)(hb:jP b=false)(hv:kk b=false)(he:a≠b)(hA:b≠.nam ai)(h:∀ {n:Nat}{σ:ak}{q s r:Nat}{F:Int}{K:KP},σ[q]?=some (b0 F)→bB σ s r S→K (.p (aZ ws)) σ→ae an (n+39) 36 [.ref q,.p (kD a),.p (kD b),.ref s] σ K):aF S (false,a,b) ws S:=tf fun {n σ q s r F K} hq hs k=>by
 refine eq_61 (n:=n+39) (by exact qZ rfl) hq hs he (sG l.n hb) l.d l.w l.e (eq_32 hA) (fun e=>?_) (fun e=>?_) (eq_14 l.v) (eq_14 hv) (h hq hs k)
 ·subst e;cases l.v
 ·subst e;cases hv
theorem eq_202 {S:Sd}{a:Kd}{ls:List Kd}(l:Left a)(hl:ls.length≤300):aF S (false,a,.uni ls) (ls.map fun x=>[(false,a,x)]) S:=by
 refine eq_370 l rfl rfl (fun e=>?_) (fun e=>nomatch e) fun hq hs k=>eq_755 l.u l.al l.v hl k
 subst e;cases l.u
theorem sA {S:Sd}{a b:Kd}{ws:List (List G)}(l:Left a)(hb:jP b=false)(hu:fE b=false)(ha:lM b=false)(hv:kk b=false)(he:a≠b)(hA:b≠.nam ai)(h:∀ {n:Nat}{σ:ak}{q:Nat}{F:Int}{K:KP},σ[q]?=some (b0 F)→K (.p (aZ ws)) σ→ae an (n+38) 38 [.ref q,.p (kD a),.p (kD b)] σ K):aF S (false,a,b) ws S:=
 eq_370 l hb hv he hA fun hq hs k=>eq_756 hq l.u l.al l.v hu ha hv (h hq k)
theorem eq_203 {m:Nat}:Left (.nam m):=⟨⟨rfl,qZ rfl,qZ rfl⟩,rfl,rfl,rfl,rfl⟩
theorem eq_779 {m:Nat}:Left (.typ m):=⟨⟨rfl,qZ rfl,qZ rfl⟩,rfl,rfl,rfl,rfl⟩
theorem eq_204 {m i:Nat}:Left (.arr m i):=⟨⟨rfl,qZ rfl,qZ rfl⟩,rfl,rfl,rfl,rfl⟩
theorem eq_33:Left .arv:=⟨⟨rfl,qZ rfl,qZ rfl⟩,rfl,rfl,rfl,rfl⟩
theorem rN:∀ x∈ao,x≠ai:=by decide +kernel
theorem r7 {m n:Nat}(h:m≠n):Kd.nam m≠.nam n:=fun e=>h (by injection e)
theorem eq_371 {S:Sd}{m o:Nat}(hm:m∈ao)(ho:o∈ao)(he:m≠o):aF S (false,.nam m,.nam o) (if o∈chain m then [[]] else []) S:=
 sA eq_203 rfl rfl rfl rfl (r7 he) (r7 (rN o ho)) fun hq k=>eq_199 (o:=o) (ps:=[]) rfl hq hm (by exact qZ rfl) k
theorem eq_372:∀ m∈ao,bg∉chain m:=by decide +kernel
theorem eq_780 {S:Sd}{m o i:Nat}(hm:m∈ao):aF S (false,.nam m,.arr o i) [] S:=
 sA eq_203 rfl rfl rfl rfl (fun e=>nomatch e) (fun e=>nomatch e) fun hq k=>eq_199 (o:=bg) (ps:=[bJ o,.tup [.str fD,.int i]]) rfl hq hm (by exact qZ rfl) (by rw[if_neg (eq_372 m hm)];exact k)
theorem eq_781 {S:Sd}{m:Nat}(hm:m∈ao):aF S (false,.nam m,.arv) [] S:=
 sA eq_203 rfl rfl rfl rfl (fun e=>nomatch e) (fun e=>nomatch e) fun hq k=>eq_199 (o:=bg) (ps:=[vD fx,.tup [.str fD,.int 1]]) rfl hq hm (by exact qZ rfl) (by rw[if_neg (eq_372 m hm)];exact k)
theorem eq_373 {S:Sd}{m o i:Nat}(ho:o∈ao):aF S (false,.arr m i,.nam o) [] S:=
 sA eq_204 rfl rfl rfl rfl (fun e=>nomatch e) (r7 (rN o ho)) fun hq k=>eq_769 hq ho (by exact qZ rfl) k
theorem eq_782 {S:Sd}{o:Nat}(ho:o∈ao):aF S (false,.arv,.nam o) [] S:=
 sA eq_33 rfl rfl rfl rfl (fun e=>nomatch e) (r7 (rN o ho)) fun hq k=>eq_770 hq ho (by exact qZ rfl) k
theorem eq_783 {S:Sd}{m o i j:Nat}(he:Kd.arr m i≠.arr o j):aF S (false,.arr m i,.arr o j) [[(true,.nam m,.nam o),(true,.num i,.num j)]] S:=
 sA eq_204 rfl rfl rfl rfl he (fun e=>nomatch e) fun hq k=>eq_771 hq (by exact qZ rfl) k
theorem eq_784 {S:Sd}{m i:Nat}:aF S (false,.arr m i,.arv) [[(true,.nam m,.var),(true,.num i,.num 1)]] S:=
 sA eq_204 rfl rfl rfl rfl (fun e=>nomatch e) (fun e=>nomatch e) fun hq k=>eq_772 hq (by exact qZ rfl) k
theorem eq_785 {S:Sd}{o j:Nat}:aF S (false,.arv,.arr o j) [[(true,.var,.nam o),(true,.num 1,.num j)]] S:=
 sA eq_33 rfl rfl rfl rfl (fun e=>nomatch e) (fun e=>nomatch e) fun hq k=>eq_773 hq (by exact qZ rfl) k
theorem eq_786 {S:Sd}{m o:Nat}(he:m≠o):aF S (false,.typ m,.typ o) [[(true,.nam m,.nam o)]] S:=
 sA eq_779 rfl rfl rfl rfl (fun e=>he (by injection e)) (fun e=>nomatch e) fun hq k=>eq_775 (by exact qZ rfl) k
theorem eq_107 {S:Sd}{ks ls:List Kd}{r t:Option Nat}(l:Left (.tup ks r))(hl:ls.length≤300)(he:Kd.tup ks r≠.tup ls t):aF S (false,.tup ks r,.tup ls t) (tw ks r ls t) S:=
 sA l rfl rfl rfl rfl he (fun e=>nomatch e) fun hq k=>eq_774 (by exact qZ rfl) (Nat.le_trans (Nat.le_max_left _ _) l.w) hl k
theorem ry {S:Sd}{a b:Kd}(l:Left a)(hb:jP b=false)(hu:fE b=false)(ha:lM b=false)(hv:kk b=false)(he:a≠b)(hA:b≠.nam ai)(h:nM a b=true):aF S (false,a,b) [] S:=
 sA l hb hu ha hv he hA fun hq k=>eq_776 (by exact qZ rfl) h k
end Mine
end
section
set_option genSizeOf false
set_option genInjectivity false
namespace Mine
open PySem
def iL (S:Sd)(b:Bool):Prop:=∀ (n:Nat)(σ:ak) (q s r:Nat) (F:Int)(K:KP),σ[q]?=some (b0 F)→bB σ s r S→K (.p (.bool b)) σ→ae an (n+40) 40 [.ref q,.ref s] σ K
def ji (ws:List (List G)):Prop:=ws.length≤20∧∀ w∈ws,w.length≤20
mutual
inductive Run:Sd→List G→Nat→Nat→Prop
 | nil {S:Sd}{b:Bool}:iL S b→Run S [] (bif b then 1 else 0) 0
 | step {S S':Sd}{gs:List G}{g:G}{ws:List (List G)}{s c:Nat}:aF S g ws S'→ji ws→RunAll S' gs ws s c→Run S (gs++[g]) s (c+1)
inductive RunAll:Sd→List G→List (List G)→Nat→Nat→Prop
 | nil {S:Sd}{gs:List G}:RunAll S gs [] 0 0
 | cons {S:Sd}{gs w:List G}{ws:List (List G)}{s s' c c':Nat}:Run S (gs++w) s c→RunAll S gs ws s' c'→RunAll S gs (w::ws) (s+s') (c+c')
end
structure Cf where
 l:Nat
 s:Nat
 r:Nat
 S:Sd
 gs:List G
 sc:Nat
 c:Nat
noncomputable def lj (x:Cf):PV:=.mix [.ref x.l,.ref x.s]
def fy (σ:ak)(x:Cf):Prop:=σ[x.l]?=some (.list ((cu x.gs).map .p))∧bB σ x.s x.r x.S
def Df (a b:Cf):Prop:=a.l≠b.l∧a.s≠b.s∧a.r≠b.r
structure Inv (σ:ak) (q w F:Nat)(W:List Cf):Prop where
 hq:σ[q]?=some (b0 F)
 hw:σ[w]?=some (.list (W.map lj))
 ok:∀ x∈W,fy σ x
 dw:∀ x∈W,x.l≠w
 pw:W.Pairwise Df
 run:∀ x∈W,Run x.S x.gs x.sc x.c
 len:∀ x∈W,x.gs.length+20*F≤80020
 wl:W.length+20*F≤80020
structure Cur (σ:ak) (w:Nat)(W:List Cf)(x:Cf):Prop where
 ok:fy σ x
 dw:x.l≠w
 df:∀ y∈W,Df x y
theorem tA {σ:ak}{i:Nat}{c:Cell}(h:σ[i]?=some c):i<σ.length:=(List.getElem?_eq_some_iff.mp h).1
theorem fy.set {σ:ak}{x:Cf}{i:Nat}{c:Cell}(h:fy σ x)(h1:i≠x.l)(h2:i≠x.s)(h3:i≠x.r):fy (σ.set i c) x:=by
 refine⟨?_,?_,?_⟩
 ·rw[rL h1];exact h.1
 ·rw[rL h2];exact h.2.1
 ·rw[rL h3];exact h.2.2
theorem fy.app {σ τ:ak}{x:Cf}(h:fy σ x):fy (σ++τ) x:=⟨rE h.1,rE h.2.1,rE h.2.2⟩
theorem r8 {σ:ak}{i j:Nat}{xs:List PV}{c:Nat}{ns:List Nat}{vs:List PV}(h:σ[i]?=some (.list xs))(h':σ[j]?=some (.inst c ns vs)):i≠j:=by
 intro e;subst e;rw[h] at h';cases h'
theorem tB {σ:ak}{i j:Nat}{xs:List PV}{ns:List Nat}{vs:List PV}(h:σ[i]?=some (.list xs))(h':σ[j]?=some (.dict ns vs)):i≠j:=by
 intro e;subst e;rw[h] at h';cases h'
theorem sC {σ:ak}{i j:Nat}{c:Nat}{ns ns':List Nat}{vs vs':List PV}(h:σ[i]?=some (.inst c ns vs))(h':σ[j]?=some (.dict ns' vs')):i≠j:=by
 intro e;subst e;rw[h] at h';cases h'
theorem tM {σ:ak}{i j:Nat}{F:Int}{r:Nat}{S:Sd}(h:σ[i]?=some (b0 F))(h':σ[j]?=some (gJ r S)):i≠j:=by
 intro e;subst e;rw[h] at h';have h':some (Cell.inst 2 _ _)=some (Cell.inst 1 _ _):=h';cases h'
section
variable {σ:ak}{q w F:Nat}{W:List Cf}{x:Cf}
theorem Inv.app (h:Inv σ q w F W)(τ:ak):Inv (σ++τ) q w F W:=⟨rE h.hq,rE h.hw,fun y hy=>(h.ok y hy).app,h.dw,h.pw,h.run,h.len,h.wl⟩
theorem Cur.app (h:Cur σ w W x)(τ:ak):Cur (σ++τ) w W x:=⟨h.ok.app,h.dw,h.df⟩
theorem Inv.set {i:Nat}{c:Cell}(h:Inv σ q w F W)(hq:i≠q)(hw:i≠w)(hx:∀ y∈W,i≠y.l∧i≠y.s∧i≠y.r):Inv (σ.set i c) q w F W:=
 ⟨by rw[rL hq];exact h.hq,by rw[rL hw];exact h.hw,fun y hy=>(h.ok y hy).set (hx y hy).1 (hx y hy).2.1 (hx y hy).2.2,h.dw,h.pw,h.run,h.len,h.wl⟩
theorem Inv.push {gs:List G}{sc c:Nat}(h:Inv σ q w F W)(hx:Cur σ w W x)(hr:Run x.S gs sc c)(hl:gs.length+20*F≤80020)(hl2:W.length+1+20*F≤80020) :
  let y:Cf:=⟨σ.length,σ.length+2,σ.length+1,x.S,gs,sc,c⟩
  let σ':=((σ++[Cell.list ((cu gs).map .p)])++[gu x.S,gJ (σ.length+1) x.S]).set w (.list (W.map lj++[lj y]))
  Inv σ' q w F (W++[y])∧Cur σ' w (W++[y]) x:=by
 intro y σ'
 have hw:=h.hw
 have wlt:=tA hw
 have e:σ'=(σ.set w (.list (W.map lj++[lj y])))++[Cell.list ((cu gs).map .p),gu x.S,gJ (σ.length+1) x.S]:=by
  show ((σ++[Cell.list ((cu gs).map .p)])++[gu x.S,gJ (σ.length+1) x.S]).set w _=_
  rw[append_assoc,List.set_append_left _ _ wlt];rfl
 have hle:(σ.set w (.list (W.map lj++[lj y]))).length=σ.length:=List.length_set
 have keep:∀ z:Cf,fy σ z→z.l≠w→fy σ' z:=by
  intro z hz hd
  rw[e]
  exact fy.app (hz.set (Ne.symm hd) (r8 hw hz.2.1) (tB hw hz.2.2))
 have bnd:∀ z:Cf,fy σ z→z.l<σ.length∧z.s<σ.length∧z.r<σ.length:=fun z hz=>⟨tA hz.1,tA hz.2.1,tA hz.2.2⟩
 have hy:fy σ' y:=by
  rw[e]
  refine⟨?_,?_,?_⟩
  ·show ((σ.set w _)++_)[σ.length]?=_
   rw[List.getElem?_append_right (by exact Nat.le_of_eq hle),hle];simp[y]
  ·show ((σ.set w _)++_)[σ.length+2]?=_
   rw[List.getElem?_append_right (by exact re (Nat.le_of_eq hle) (by simp +arith only)),hle];simp[y]
  ·show ((σ.set w _)++_)[σ.length+1]?=_
   rw[List.getElem?_append_right (by exact re (Nat.le_of_eq hle) (by simp +arith only)),hle];simp[y]
 have dfy:∀ z:Cf,fy σ z→Df z y:=by
  intro z hz
  have:=bnd z hz
  exact⟨Nat.ne_of_lt this.1,Nat.ne_of_lt (Nat.lt_add_right 2 this.2.1),Nat.ne_of_lt (Nat.lt_add_right 1 this.2.2)⟩
 refine⟨⟨?_,?_,?_,?_,?_,?_,?_,?_⟩,⟨keep x hx.ok hx.dw,hx.dw,?_⟩⟩
 ·rw[e];refine rE ?_
  rw[rL (r8 hw h.hq)];exact h.hq
 ·rw[e];refine rE ?_
  rw[rV hw,map_append];rfl
 ·intro z hz
  rcases mem_append.mp hz with hz | hz
  ·exact keep z (h.ok z hz) (h.dw z hz)
  ·rw[mem_singleton.mp hz];exact hy
 ·intro z hz
  rcases mem_append.mp hz with hz | hz
  ·exact h.dw z hz
  ·rw[mem_singleton.mp hz];show σ.length≠w;exact Nat.ne_of_gt wlt
 ·rw[List.pairwise_append]
  refine⟨h.pw,List.pairwise_singleton _ _,fun a ha b hb=>?_⟩
  rw[mem_singleton.mp hb];exact dfy a (h.ok a ha)
 ·intro z hz
  rcases mem_append.mp hz with hz | hz
  ·exact h.run z hz
  ·rw[mem_singleton.mp hz];exact hr
 ·intro z hz
  rcases mem_append.mp hz with hz | hz
  ·exact h.len z hz
  ·rw[mem_singleton.mp hz];exact hl
 ·rw[length_append];exact hl2
 ·intro z hz
  rcases mem_append.mp hz with hz | hz
  ·exact hx.df z hz
  ·rw[mem_singleton.mp hz];exact dfy x hx.ok
end
end Mine
end
section
namespace Mine
open PySem
noncomputable def km (q l s w:Nat)(rest:aN):aN:=(ah,.ref q)::(bv,.ref l)::(au,.ref s)::(cp,.ref w)::rest
noncomputable def nN (v:List G):D:=.lst (cu v)
theorem eq_787 {n q l s r w:Nat}{S:Sd}{gs v:List G}{σ:ak}{L:List PV}{v0:PV}{K:KR}(hn:3≤n)(hw:σ[w]?=some (.list L))(hxl:σ[l]?=some (.list ((cu gs).map .p)))(ha:bB σ s r S)(hlen:(List.map PV.p (cu gs)).length+(List.map PV.p (cu v)).length≤100000)(hL:L.length≤100000)
  (h:K .next (km q l s w [(bF,v0),(bS,.p (nN v))]) (((σ++[Cell.list ((cu (gs++v)).map .p)])++[gu S,gJ (σ.length+1) S]).set w (.list (L++[.mix [.ref σ.length,.ref (σ.length+2)]])))) :
  bu an.tab (ae an n) qb (km q l s w [(bF,v0),(bS,.p (nN v))]) σ K:=by
 have happ:(σ++[Cell.list (List.map PV.p (cu gs)++List.map PV.p (cu v))])=σ++[Cell.list ((cu (gs++v)).map .p)]:=by simp[cu]
 have e:(σ++[Cell.list ((cu (gs++v)).map .p)]).length=σ.length+1:=by simp
 refine rF (eq_744 hw) ?_
 refine rc (eq_7 hxl) ?_
 refine rF (rj hlen) ?_
 conv=>whnf
 rw[happ,rH (⟨rE ha.1,rE ha.2⟩:bB (σ++_) s r S)]
 conv=>whnf
 obtain⟨n,rfl⟩:∃ m,n=m+3:=⟨n - 3,by exact u3 hn rfl⟩
 refine eq_749 (⟨rE ha.1,rE ha.2⟩:bB (σ++_) s r S) ?_
 rw[e]
 refine s8 (rE (rE hw)) ?_
 refine rF (rj hL) ?_
 exact h
theorem eq_788 {n q w F:Nat}{x:Cf}{vi:PV}{all:List PV}(hv:∀ (σ:ak)(R:Prop),R→dE vi all σ R)(hn:5≤n):∀ {vs:List (List G)}{nums:List (Nat×Nat)}{σ:ak}{W:List Cf}{v0:PV}{rest:aN}{K:KR},(rest=[]∨∃ A,rest=[(bS,A)])→
  Inv σ q w F W→Cur σ w W x→σ[q]?=some (b0 F)→vs.length=nums.length→
  (∀ i (h:i<vs.length)(h':i<nums.length),Run x.S (x.gs++vs[i]) nums[i].1 nums[i].2)→
  (∀ v∈vs,v.length≤20)→x.gs.length+20+20*F≤80020→W.length+vs.length+20*F≤80020→
  (∀ (σ':ak)(E:List Cf) rest,(rest=[]∨∃ A,rest=[(bS,A)])→Inv σ' q w F (W++E)→Cur σ' w (W++E) x→E.length=vs.length→(E.map fun y=>y.sc)=nums.map Prod.fst→(E.map fun y=>y.c)=nums.map Prod.snd→K .next (km q x.l x.s w ((bF,v0)::rest)) σ')→
  hZ vi all (fun y ρ σ K=>match bo (.one bS) y ρ with
   | some ρ'=>bu an.tab (ae an n) qb ρ' σ K
   | none=>False) (List.map PV.p (vs.map nN)) (km q x.l x.s w ((bF,v0)::rest)) σ K:=by
 intro vs
 induction vs with
 | nil=>
  intro nums σ W v0 rest K hr hi hc hq hl hrun hsm hx hW k
  refine hv _ _ ?_
  have hn0:nums=[]:=List.length_eq_zero_iff.mp hl.symm
  subst hn0
  exact k σ [] rest hr (by rw[append_nil];exact hi) (by rw[append_nil];exact hc) rfl rfl rfl
 | cons v vs ih=>
  intro nums σ W v0 rest K hr hi hc hq hl hrun hsm hx hW k
  obtain⟨nm,nums,rfl⟩:∃ a b,nums=a::b:=by cases nums with
   | nil=>cases hl
   | cons a b=>exact⟨a,b,rfl⟩
  have hv1:v.length≤20:=hsm v mem_cons_self
  have hrun1:Run x.S (x.gs++v) nm.1 nm.2:=hrun 0 (by simp) (by simp)
  simp only[List.length_cons] at hW hl
  obtain⟨hi',hc'⟩:=hi.push hc hrun1 (by rw[length_append];exact re (Nat.add_le_add hv1 hx) (by simp +arith only)) (by exact re hW (by simp +arith only))
  have go:=fun A=>ih (nums:=nums) (v0:=v0) (rest:=[(bS,A)]) (K:=K) (.inr ⟨A,rfl⟩) hi' hc' hi'.hq (by lia) (fun i h h'=>hrun (i+1) (by simpa using h) (by simpa using h')) (fun u hu=>hsm u (mem_cons_of_mem _ hu)) hx (by rw[length_append,List.length_singleton];exact re hW (by simp +arith only)) (fun σ' E rest hr hi hc h1 h2 h3=>by
   refine k σ' (⟨σ.length,σ.length+2,σ.length+1,x.S,x.gs++v,nm.1,nm.2⟩::E) rest hr ?_ ?_ ?_ ?_ ?_
   ·rw[append_assoc] at hi;exact hi
   ·rw[append_assoc] at hc;exact hc
   ·simp[h1]
   ·simp[h2]
   ·simp[h3])
  refine hv _ _ ?_
  have hxl:=hc.ok.1
  have hlen:(List.map PV.p (cu x.gs)).length+(List.map PV.p (cu v)).length≤100000:=by
   rw[eq_106,eq_106];exact re (Nat.add_le_add hv1 hx) (by simp +arith only)
  have tn:=fun K2 k2=>eq_787 (K:=K2) (n:=n) (q:=q) (v0:=v0) (by exact Nat.le_trans (qZ rfl) hn) hi.hw hxl hc.ok.2 hlen (by rw[length_map];exact re hW (by simp +arith only)) k2
  rcases hr with rfl | ⟨A,rfl⟩
  ·exact tn _ (go _)
  ·exact tn _ (go _)
theorem eq_789 {S:Sd}{gs:List G}{ws:List (List G)}:∀ {s c:Nat},RunAll S gs ws s c→∃ T:List (List G×Nat×Nat),T.map (·.1)=ws∧(∀ t∈T,Run S (gs++t.1) t.2.1 t.2.2)∧(T.map (·.2.1)).sum=s∧(T.map (·.2.2)).sum=c:=by
 induction ws with
 | nil=>exact fun h=>by cases h;exact⟨[],rfl,(fun t ht=>nomatch ht),rfl,rfl⟩
 | cons w ws ih=>
  intro s c h
  cases h with
  | cons h1 h2=>
   obtain⟨T,rfl,e2,rfl,rfl⟩:=ih h2
   exact⟨(w,_,_)::T,rfl,fun t ht=>(mem_cons.mp ht).elim (fun e=>e▸h1) (e2 t),rfl,rfl⟩
noncomputable def hU (E:List Cf):Nat:=(E.map fun y=>y.sc).sum
noncomputable def gw (E:List Cf):Nat:=(E.map fun y=>y.c).sum
def ew (rest:aN):Prop:=rest=[]∨∃ A r',rest=(bF,A)::r'∧(r'=[]∨∃ B,r'=[(bS,B)])
theorem eq_790 {F:Nat}:((F+1:Nat):Int) - 1=(F:Int):=by lia
theorem eq_791 {gs:List G}{g:G}:(List.map PV.p (cu (gs++[g]))).getLast?=some (.p (gD g)):=by
 simp[cu]
theorem eq_792 {gs:List G}{g:G}:(List.map PV.p (cu (gs++[g]))).dropLast=List.map PV.p (cu gs):=by
 simp[cu]
theorem eq_793 {gs:List G}{g:G}:(List.map PV.p (cu (gs++[g]))).isEmpty=false:=by
 simp[cu]
theorem eq_794 {σ:ak}{q:Nat}{F G:Int}(h:σ[q]?=some (b0 F)):mi an.tab.attr σ ct (.p (.int G)) (.ref q)=some (σ.set q (b0 G)):=by
 rw[td h];rfl
section
variable {σ:ak}{q w F:Nat}{W:List Cf}{x:Cf}
theorem Inv.fuel (h:Inv σ q w (F+1) W):Inv (σ.set q (b0 F)) q w F W:=by
 refine⟨rV h.hq,?_,fun y hy=>?_,h.dw,h.pw,h.run,fun y hy=>?_,?_⟩
 ·rw[rL (r8 h.hw h.hq).symm];exact h.hw
 ·have o:=h.ok y hy
  exact o.set (r8 o.1 h.hq).symm (tM h.hq o.2.1) (sC h.hq o.2.2)
 ·have:=h.len y hy;exact re this (by simp +arith only)
 ·have:=h.wl;exact re this (by simp +arith only)
theorem Cur.setq {G:Int}(h:Cur σ w W x){F:Int}(hq:σ[q]?=some (b0 F)):Cur (σ.set q (b0 G)) w W x:=
 ⟨h.ok.set (r8 h.ok.1 hq).symm (tM hq h.ok.2.1) (sC hq h.ok.2.2),h.dw,h.df⟩
theorem Inv.setl {xs:List PV}(h:Inv σ q w F W)(hc:Cur σ w W x):Inv (σ.set x.l (.list xs)) q w F W:=by
 have hl:=hc.ok.1
 refine h.set (r8 hl h.hq) hc.dw fun y hy=>?_
 have o:=h.ok y hy
 exact⟨(hc.df y hy).1,r8 hl o.2.1,tB hl o.2.2⟩
theorem Cur.setl {gs:List G}(hc:Cur σ w W x):Cur (σ.set x.l (.list ((cu gs).map .p))) w W ⟨x.l,x.s,x.r,x.S,gs,x.sc,x.c⟩:=by
 have hl:=hc.ok.1
 refine⟨⟨rV hl,?_,?_⟩,hc.dw,hc.df⟩
 ·show (σ.set x.l _)[x.s]?=_
  rw[rL (r8 hl hc.ok.2.1)];exact hc.ok.2.1
 ·show (σ.set x.l _)[x.r]?=_
  rw[rL (tB hl hc.ok.2.2)];exact hc.ok.2.2
theorem Inv.sets {S':Sd}(h:Inv σ q w F W)(hc:Cur σ w W x):Inv ((σ.set x.r (gu S')).set x.s (gJ x.r S')) q w F W:=by
 have h1:=hc.ok.2.1
 have h2:=hc.ok.2.2
 have a:Inv (σ.set x.r (gu S')) q w F W:=by
  refine h.set (sC h.hq h2).symm (tB h.hw h2).symm fun y hy=>?_
  have o:=h.ok y hy
  exact⟨(tB o.1 h2).symm,(sC o.2.1 h2).symm,(hc.df y hy).2.2⟩
 refine a.set (tM h.hq h1).symm (r8 h.hw h1).symm fun y hy=>?_
 have o:=h.ok y hy
 exact⟨(r8 o.1 h1).symm,(hc.df y hy).2.1,sC h1 o.2.2⟩
theorem Cur.sets {S':Sd}(hc:Cur σ w W x):Cur ((σ.set x.r (gu S')).set x.s (gJ x.r S')) w W ⟨x.l,x.s,x.r,S',x.gs,x.sc,x.c⟩:=by
 have hl:=hc.ok.1
 have h1:=hc.ok.2.1
 have h2:=hc.ok.2.2
 have hsr:=sC h1 h2
 refine⟨⟨?_,?_,?_⟩,hc.dw,hc.df⟩
 ·show ((σ.set x.r _).set x.s _)[x.l]?=_
  rw[rL (r8 hl h1).symm,rL (tB hl h2).symm];exact hl
 ·show ((σ.set x.r _).set x.s _)[x.s]?=_
  exact rV (c:=gJ x.r x.S) (by rw[rL hsr.symm];exact h1)
 ·show ((σ.set x.r _).set x.s _)[x.r]?=_
  rw[rL hsr];exact rV h2
end
theorem eq_205 {x:Nat}{v:PV}{ρ:aN}:(de x v ρ).lookup x=some v:=by rw[sq,if_pos rfl]
theorem eq_795 {f:Nat→List PV→ak→(PV→ak→Prop)→Prop}{ρ:aN}{σ:ak}{R:T}{K:KR}(h:ρ.lookup bF=some (.p (aZ [])))(k:K (.ret (.p .none)) ρ σ):bu an.tab f (.cons (.iff (.emp false true (.var bF)) (.cons (.ret (.con .none)) .nil) .nil) R) ρ σ K:=by
 conv=>whnf
 rw[h]
 exact k
theorem eq_796 {f:Nat→List PV→ak→(PV→ak→Prop)→Prop}{ρ:aN}{σ:ak}{R:T}{w:List G}{ws:List (List G)}{K:KR}(h:ρ.lookup bF=some (.p (aZ (w::ws))))(k:bu an.tab f R ρ σ K):bu an.tab f (.cons (.iff (.emp false true (.var bF)) (.cons (.ret (.con .none)) .nil) .nil) R) ρ σ K:=by
 generalize hR:bu an.tab f R=E at k
 conv=>whnf
 rw[h]
 subst hR
 exact k
theorem eq_797 {n q w F k:Nat}{gs:List G}{g:G}{ws:List (List G)}{S':Sd}{σ:ak}{W:List Cf}{x:Cf}{ρ:aN}{K:KR}(hn:60≤n)(r1:ρ.lookup ah=some (.ref q))(r2:ρ.lookup bv=some (.ref x.l))(r3:ρ.lookup au=some (.ref x.s))(hi:Inv σ q w (F+1) W)(hc:Cur σ w W x)(hx:x.gs=gs++[g])(hs:aF x.S g ws S')(hl:x.gs.length+20*(F+1)≤80020)
  (k0:ws=[]→∀ ρ σ',Inv σ' q w F W→K (.ret (.p .none)) ρ σ')
  (k1:∀ w0 ws',ws=w0::ws'→∀ σ',Inv σ' q w F W→Cur σ' w W ⟨x.l,x.s,x.r,S',gs,x.sc,x.c⟩→
   bu an.tab (ae an n) o4 (de bF (.p (aZ ws)) ρ) σ' (fun r ρ σ=>match r with
    | .next=>bj (fun ρ σ K=>bR an.tab (ae an n) oE ρ σ (bK K)) (bu an.tab (ae an n) oG) k ρ σ K
    | .ret v=>K (.ret v) ρ σ)) :
  bj (fun ρ σ K=>bR an.tab (ae an n) oE ρ σ (bK K)) (bu an.tab (ae an n) oG) (k+1) ρ σ K:=by
 have hxl:=hc.ok.1
 rw[hx] at hxl
 have hq:=hi.hq
 have hi1:=hi.fuel
 have hc1:Cur _ w W x:=hc.setq (G:=F) hq
 have hi2:=hi1.setl (xs:=(cu gs).map .p) hc1
 have hc2:=hc1.setl (gs:=gs)
 have hi3:=fun τ=>(hi2.app τ).sets (S':=S') (hc2.app τ)
 have hc3:=fun τ=>(hc2.app τ).sets (S':=S')
 have hz:(gs++[g]).length≤100000:=hx▸sj hl rfl
 refine rc r2 ?_
 refine s8 hxl ?_
 rw[eq_793]
 refine rc r1 ?_
 refine rc (eq_194 hq) ?_
 refine rc r1 ?_
 refine rc ((eq_794 hq).trans (by rw[eq_790])) ?_
 refine rc r1 ?_
 refine rc (eq_194 (rV hq)) ?_
 refine rc r1 ?_
 refine rc (se (rV hq)) ?_
 refine rc rfl ?_
 refine sr rfl ?_
 refine rc r2 ?_
 refine rF (eq_359 hc1.ok.1) ?_
 refine s8 (hc1.ok.1.trans (by rw[hx])) ?_
 refine rc eq_791 ?_
 refine rF (by rw[eq_106,rj hz]) ?_
 rw[eq_792]
 refine rc r3 ?_
 conv=>whnf
 obtain⟨m,rfl⟩:∃ m,n=m+40:=⟨n - 40,u3 hn rfl⟩
 refine hs m _ q x.s x.r F _ hi2.hq hc2.ok.2 fun τ=>?_
 cases ws with
 | nil=>exact eq_795 eq_205 (k0 rfl _ _ (hi3 τ))
 | cons w0 ws'=>exact eq_796 eq_205 (k1 w0 ws' rfl _ (hi3 τ) (hc3 τ))
theorem turn {n q w F k:Nat}{gs:List G}{g:G}{ws:List (List G)}{S':Sd}{σ:ak}{W:List Cf}{x:Cf}{rest:aN}{K:KR}(hn:60≤n)(hr:ew rest)(hi:Inv σ q w (F+1) W)(hc:Cur σ w W x)(hx:x.gs=gs++[g])(hs:aF x.S g ws S')(hl:x.gs.length+20*(F+1)≤80020)
  (k0:ws=[]→∀ ρ σ',Inv σ' q w F W→K (.ret (.p .none)) ρ σ')
  (k1:∀ w0 ws',ws=w0::ws'→∀ σ' rest,(rest=[]∨∃ A,rest=[(bS,A)])→Inv σ' q w F W→Cur σ' w W ⟨x.l,x.s,x.r,S',gs,x.sc,x.c⟩→
   bu an.tab (ae an n) o4 (km q x.l x.s w ((bF,.p (aZ ws))::rest)) σ' (fun r ρ σ=>match r with
    | .next=>bj (fun ρ σ K=>bR an.tab (ae an n) oE ρ σ (bK K)) (bu an.tab (ae an n) oG) k ρ σ K
    | .ret v=>K (.ret v) ρ σ)) :
  bj (fun ρ σ K=>bR an.tab (ae an n) oE ρ σ (bK K)) (bu an.tab (ae an n) oG) (k+1) (km q x.l x.s w rest) σ K:=by
 refine eq_797 hn rfl rfl rfl hi hc hx hs hl k0 fun w0 ws' e σ' hi hc=>?_
 rcases hr with rfl | ⟨A,r',rfl,rfl | ⟨B,rfl⟩⟩
 ·exact k1 w0 ws' e σ' [] (.inl rfl) hi hc
 ·exact k1 w0 ws' e σ' [] (.inl rfl) hi hc
 ·exact k1 w0 ws' e σ' [(bS,B)] (.inr ⟨B,rfl⟩) hi hc
theorem eq_798 {w0:List G}{ws:List (List G)}(h:(w0::ws).length≤20):eC Sl.revTo (PV.p (D.int 0)) (List.map PV.p (List.map (fun w=>D.lst (cu w)) (w0::ws)))=some (List.map PV.p (ws.reverse.map nN)):=by
 have e:(List.map PV.p (List.map (fun w=>D.lst (cu w)) (w0::ws))).length.ble 100000=true:=by
  rw[length_map,length_map];exact rj (by exact u1 h rfl)
 show (bif (List.map PV.p (List.map (fun w=>D.lst (cu w)) (w0::ws))).length.ble 100000 then some ((List.map PV.p (List.map (fun w=>D.lst (cu w)) (w0::ws))).drop 1).reverse else none)=_
 rw[e,cond_true,List.map_cons,List.map_cons,List.drop_succ_cons,List.drop_zero,← List.map_reverse,← List.map_reverse]
 rfl
theorem eq_799 {xs ys:List G}:List.map PV.p (cu xs)++List.map PV.p (cu ys)=List.map PV.p (cu (xs++ys)):=by simp[cu]
theorem eq_374 (l:List Nat):l.reverse.sum=l.sum:=List.sum_reverse l
abbrev iM (n k:Nat)(ρ:aN)(σ:ak)(K:KR):Prop:=bj (fun ρ σ K=>bR an.tab (ae an n) oE ρ σ (bK K)) (bu an.tab (ae an n) oG) k ρ σ K
theorem tN (E E':List Cf):hU (E++E')=hU E+hU E':=by unfold hU;rw[map_append,List.sum_append]
theorem tG (E E':List Cf):gw (E++E')=gw E+gw E':=by unfold gw;rw[map_append,List.sum_append]
def oq (q w F:Nat)(W:List Cf)(x:Cf) (sc c:Nat)(K:KR):Prop:=∀ σ' E F' S' b rest',ew rest'→F'≤F→Inv σ' q w F' (W++E)→Cur σ' w (W++E) ⟨x.l,x.s,x.r,S',[],x.sc,x.c⟩→iL S' b→(bif b then 1 else 0)+hU E=sc→gw E+(F - F')≤c→E.length≤20*(F - F')→K .next (km q x.l x.s w rest') σ'
def oH (q w F:Nat)(W:List Cf) (sc c:Nat)(K:KR):Prop:=∀ ρ σ' E F',F'<F→Inv σ' q w F' (W++E)→hU E=sc→gw E+(F - F')≤c→E.length≤20*(F - F')→K (.ret (.p .none)) ρ σ'
theorem tT {a c1 s1 F F':Nat}(h:a+(F - F')≤s1)(h':F'≤F):c1+a+(F+1 - F')≤s1+c1+1:=by
 rw[Nat.succ_sub h'];generalize F - F'=d at *;exact re h (by simp +arith only)
theorem tU {a b F F':Nat}(h:a≤20*(F - F'))(hb:b≤20)(h':F'≤F):b+a≤20*(F+1 - F'):=by
 rw[Nat.succ_sub h'];generalize F - F'=d at *;exact re (Nat.add_le_add h hb) (by simp +arith only)
theorem ua {x a s0 c0:Nat}(h:x+a=s0):x+(c0+a)=s0+c0:=by rw[← h,Nat.add_assoc,Nat.add_comm c0]
section
variable {q w F:Nat}{W E:List Cf}{K:KR}{s0 c0 s1 c1:Nat}
theorem oq.step {x y:Cf}(h:oq q w (F+1) W x (s0+c0) (s1+c1+1) K)(e1:y.l=x.l)(e2:y.s=x.s)(e3:y.r=x.r)(e4:y.sc=x.sc)(e5:y.c=x.c)(hs:hU E=c0)(hc:gw E=c1)(hl:E.length≤20):oq q w F (W++E) y s0 s1 K:=by
 intro σ' E' F' S'' b rest' h1 h2 h3 h4 h5 h6 h7 h8
 rw[e1,e2,e3,e4,e5] at h4
 rw[e1,e2]
 rw[append_assoc] at h3 h4
 exact h σ' (E++E') F' S'' b rest' h1 (Nat.le_succ_of_le h2) h3 h4 h5 (by rw[tN,hs];exact ua h6) (by rw[tG,hc];exact tT h7 h2) (by rw[length_append];exact tU h8 hl h2)
theorem oH.step (h:oH q w (F+1) W (s0+c0) (s1+c1+1) K)(hs:hU E=c0)(hc:gw E=c1)(hl:E.length≤20):oH q w F (W++E) s0 s1 K:=by
 intro ρ σ' E' F' h2 h3 h6 h7 h8
 rw[append_assoc] at h3
 exact h ρ σ' (E++E') F' (Nat.lt_succ_of_lt h2) h3 (by rw[tN,hs,h6,Nat.add_comm]) (by rw[tG,hc];exact tT h7 (Nat.le_of_lt h2)) (by rw[length_append];exact tU h8 hl (Nat.le_of_lt h2))
theorem eq_800 {n k:Nat}{x:Cf}{σ:ak}{S:Sd}{b:Bool}{rest:aN}(hr:ew rest)(hi:Inv σ q w F W)(hc:Cur σ w W x)(hS:x.S=S)(hg:x.gs=[])(hb:iL S b)(kN:oq q w F W x (bif b then 1 else 0) 0 K):iM n (k+1) (km q x.l x.s w rest) σ K:=by
 have hxl:=hc.ok.1
 rw[hg] at hxl
 have go:=kN σ [] F S b rest hr (Nat.le_refl _) (by rw[append_nil];exact hi) (by
  rw[append_nil]
  subst hS
  rw[← hg]
  exact hc) hb rfl (by simp[gw]) (by simp)
 refine s8 hxl ?_
 exact go
theorem eq_801 {n l s:Nat}{σ:ak}{gs w0:List G}{ws:List (List G)}{rest:aN}(hr:rest=[]∨∃ A,rest=[(bS,A)])(hxl:σ[l]?=some (.list ((cu gs).map .p)))(hl:(List.map PV.p (cu gs)).length+(cu w0).length≤100000)
  (go:K .next (km q l s w ((bF,.p (aZ (w0::ws)))::rest)) (σ.set l (.list ((cu (gs++w0)).map .p)))):bu an.tab (ae an n) (iJ 1 o4) (km q l s w ((bF,.p (aZ (w0::ws)))::rest)) σ K:=by
 rw[← eq_799] at go
 refine rF (eq_745 hxl) ?_
 conv=>whnf
 rw[hxl]
 refine rF (rj hl) ?_
 exact go
set_option tactic.hygienic true in
theorem eq_802 {n l s r sc c:Nat}{S:Sd}{gs w0:List G}{ws:List (List G)}{σ:ak}{rest:aN}(hn:60≤n)(hlen:(w0::ws).length≤20)(hws:∀ w∈w0::ws,w.length≤20)(hra:RunAll S gs ws c0 c1)(hr:rest=[]∨∃ A,rest=[(bS,A)])(hi:Inv σ q w F W)(hc:Cur σ w W ⟨l,s,r,S,gs,sc,c⟩)(hW:W.length+20*(F+1)≤80020)(hl:gs.length+20+20*F≤80020)
  (go:∀ σ2 E rest2,ew rest2→Inv σ2 q w F (W++E)→Cur σ2 w (W++E) ⟨l,s,r,S,gs++w0,sc,c⟩→hU E=c0→gw E=c1→E.length≤20→K .next (km q l s w rest2) σ2) :
  bu an.tab (ae an n) o4 (km q l s w ((bF,.p (aZ (w0::ws)))::rest)) σ K:=by
 obtain⟨T,e1,e2,e3,e4⟩:=eq_789 hra
 have hT:ws.reverse.length=(T.reverse.map (·.2)).length:=by rw[List.length_reverse,length_map,List.length_reverse,← e1,length_map]
 have hwl:ws.length≤20:=Nat.le_of_succ_le hlen
 refine rc (eq_798 hlen) ?_
 conv=>whnf
 rw[rR]
 conv=>whnf
 refine eq_788 (x:=⟨l,s,r,S,gs,sc,c⟩) (nums:=T.reverse.map (·.2)) (vs:=ws.reverse) (fun J=>rM) (by exact Nat.le_trans (qZ rfl) hn) hr hi hc hi.hq hT (fun i h h'=>?_) (fun v hv=>?_) hl (by rw[List.length_reverse];exact re (Nat.add_le_add hW hwl) (by simp +arith only)) fun σ2 E rest2 hr2 hi2 hc2 hE1 hE2 hE3=>?_
 ·subst e1
  simp only[List.length_reverse,length_map] at h
  have:=e2 (T.reverse[i]'(by simpa using h)) (List.mem_reverse.mp (List.getElem_mem _))
  simpa [List.getElem_reverse] using this
 ·exact hws v (mem_cons_of_mem _ (List.mem_reverse.mp hv))
 ·refine eq_801 hr2 hc2.ok.1 ?_ (go _ E _ (.inr ⟨_,_,rfl,hr2⟩) (hi2.setl hc2) (hc2.setl (gs:=gs++w0)) ?_ ?_ ?_)
  ·rw[eq_106];simp only[cu,length_map];exact re (Nat.add_le_add (hws w0 mem_cons_self) hl) (by simp +arith only)
  ·unfold hU;rw[hE2,List.map_map,List.map_reverse,eq_374];exact e3
  ·unfold gw;rw[hE3,List.map_map,List.map_reverse,eq_374];exact e4
  ·rw[hE1,List.length_reverse];exact hwl
end
def o7 (n q w F k:Nat)(S:Sd) (c:Nat)(K:KR):Prop:=∀ (c':Nat),c'≤c→∀ {gs:List G}{s:Nat},Run S gs s c'→∀ {σ:ak}{W:List Cf}{x:Cf}{rest:aN},x.S=S→x.gs=gs→ew rest→Inv σ q w F W→Cur σ w W x→gs.length+20*F≤80020→oq q w F W x s c' K→oH q w F W s c' K→iM n k (km q x.l x.s w rest) σ K
theorem eq_803 {n q w F k sc c:Nat}{S':Sd}{gs0:List G}{g:G}{ws:List (List G)}{x:Cf}{σ:ak}{W:List Cf}{rest:aN}{K:KR}(hn:60≤n)(hr:ew rest)(hi:Inv σ q w (F+1) W)(hc:Cur σ w W x)(hg:x.gs=gs0++[g])(hs:aF x.S g ws S')(hsm:ji ws)(hra:RunAll S' gs0 ws sc c)(hl:gs0.length+1+20*(F+1)≤80020)
  (kN:oq q w (F+1) W x sc (c+1) K)(kR:oH q w (F+1) W sc (c+1) K)(rec:o7 n q w F k S' c K):iM n (k+1) (km q x.l x.s w rest) σ K:=by
 refine turn hn hr hi hc hg hs (by rw[hg,length_append];exact hl) (fun hw ρ σ' hi'=>?_) fun w0 ws' hw σ' rest' hr' hi' hc'=>?_
 ·subst hw
  cases hra
  exact kR ρ σ' [] F (Nat.lt_succ_self F) (by rw[append_nil];exact hi') rfl (by simp[gw]) (by simp)
 ·subst hw
  cases hra with
  | cons h0 hra=>
   have hl2:gs0.length+20+20*F≤80020:=re hl (by simp +arith only)
   exact eq_802 hn hsm.1 hsm.2 hra hr' hi' hc' hi.wl hl2 fun σ2 E rest2 h1 h2 h3 h4 h5 h6=>rec _ (Nat.le_add_right _ _) h0 (x:=⟨x.l,x.s,x.r,S',_,x.sc,x.c⟩) rfl rfl h1 h2 h3 (by rw[length_append];exact re (Nat.add_le_add (hsm.2 w0 mem_cons_self) hl2) (by simp +arith only)) (kN.step rfl rfl rfl rfl rfl h4 h5 h6) (kR.step h4 h5 h6)
theorem eq_804 {n q w:Nat}(hn:60≤n):∀ (c:Nat){S:Sd}{gs:List G}{sc:Nat}(R:Run S gs sc c){F k:Nat}{σ:ak}{W:List Cf}{x:Cf}{rest:aN}{K:KR},x.S=S→x.gs=gs→ew rest→Inv σ q w F W→Cur σ w W x→c≤F→c<k→gs.length+20*F≤80020→oq q w F W x sc c K→oH q w F W sc c K→iM n k (km q x.l x.s w rest) σ K:=by
 intro c
 induction c using Nat.strongRecOn with
 | ind c ih=>
  intro S gs sc R
  cases R with
  | nil hb=>
   intro F k σ W x rest K hS hg hr hi hc J hk J kN J
   obtain⟨k,rfl⟩:∃ m,k=m+1:=⟨k - 1,rq hk⟩
   exact eq_800 hr hi hc hS hg hb kN
  | step hs hsm hra=>
   intro F k σ W x rest K hS hg hr hi hc hF hk hl kN kR
   obtain⟨k,rfl⟩:∃ m,k=m+1:=⟨k - 1,rq hk⟩
   obtain⟨F,rfl⟩:∃ m,F=m+1:=⟨F - 1,rq hF⟩
   subst hS
   exact eq_803 hn hr hi hc hg hs hsm hra (by rw[length_append] at hl;exact hl) kN kR fun c' hc' {gs s} R {σ W x rest} e1 e2 hr hi hc hl kN kR=>ih c' (Nat.lt_succ_of_le hc') R e1 e2 hr hi hc (Nat.le_trans hc' (Nat.le_of_succ_le_succ hF)) (Nat.lt_of_le_of_lt hc' (Nat.lt_of_succ_lt_succ hk)) hl kN kR
theorem eq_805 {n q w:Nat}(hn:60≤n):∀ (c:Nat){S:Sd}{gs:List G}{sc:Nat}(R:Run S gs sc c){F k:Nat}{σ:ak}{W:List Cf}{x:Cf}{rest:aN}{K:KR},x.S=S→x.gs=gs→ew rest→Inv σ q w F W→Cur σ w W x→c≤F→c<k→gs.length+20*F≤80020→
  (∀ σ' E F' S' b rest',ew rest'→F'≤F→Inv σ' q w F' (W++E)→Cur σ' w (W++E) ⟨x.l,x.s,x.r,S',[],x.sc,x.c⟩→iL S' b→(bif b then 1 else 0)+hU E=sc→gw E+(F - F')≤c→E.length≤20*(F - F')→K .next (km q x.l x.s w rest') σ')→
  (∀ ρ σ' E F',F'<F→Inv σ' q w F' (W++E)→hU E=sc→gw E+(F - F')≤c→E.length≤20*(F - F')→K (.ret (.p .none)) ρ σ')→
  iM n k (km q x.l x.s w rest) σ K:=by
 exact fun c S gs sc R F k σ W x rest K a1 a2 a3 a4 a5 a6 a7 a8 kN kR=>eq_804 hn c R a1 a2 a3 a4 a5 a6 a7 a8 kN kR
theorem eq_806 {n q w F:Nat}{σ:ak}{W:List Cf}{x:Cf}{K:KP}(hn:61≤n)(hR:Run x.S x.gs x.sc x.c)(hi:Inv σ q w F W)(hc:Cur σ w W x)(hF:x.c≤F)(hl:x.gs.length+20*F≤80020)
  (kF:x.sc≠0→∀ i σ',K (.ref i) σ')
  (kN:∀ σ' E F',F'≤F→Inv σ' q w F' (W++E)→hU E=x.sc→gw E+(F - F')≤x.c→E.length≤20*(F - F')→K (.p .none) σ') :
  ae an n 31 [.ref q,.ref x.l,.ref x.s,.ref w] σ K:=by
 obtain⟨n,rfl⟩:∃ m,n=m+1:=⟨n - 1,by exact rq hn⟩
 refine rg rfl rfl (rk rfl (eq_6 rfl ?_))
 have hwl:=hi.wl
 refine eq_805 (n:=n) (q:=q) (w:=w) (rest:=[]) (by exact Nat.le_of_succ_le_succ hn) x.c hR rfl rfl (.inl rfl) hi hc hF (by unfold dF;exact rZ (Nat.add_le_add hwl hF) (by simp +arith only)) hl (fun σ' E F' S' b rest' h1 h2 h3 h4 h5 h6 h7 h8=>?_) (fun ρ σ' E F' h2 h3 h6 h7 h8=>?_)
 ·obtain⟨n,rfl⟩:∃ m,n=m+40:=⟨n - 40,by exact u4 hn rfl⟩
  have hq:=h3.hq
  have hT:b=true→x.sc≠0:=fun e=>by rw[e] at h6;exact fun z=>Nat.noConfusion (Nat.eq_zero_of_add_eq_zero (h6.trans z)).1
  have hE:b=false→hU E=x.sc:=fun e=>by rw[e] at h6;exact(Nat.zero_add _).symm.trans h6
  clear h6
  generalize hm:n+40=m
  refine rc (se hq) ?_
  conv=>whnf
  subst hm
  refine h5 n σ' q x.s x.r F' _ hq h4.ok.2 ?_
  cases b with
  | true=>exact kF (hT rfl) _ _
  | false=>exact kN σ' E F' h2 h3 (hE rfl) h7 h8
 ·exact kN σ' E F' (by exact Nat.le_of_succ_le h2) h3 h6 h7 h8
noncomputable def qG (q w:Nat)(v1 v2:PV)(rest:aN):aN:=(ah,.ref q)::(et,v1)::(au,v2)::(cp,.ref w)::rest
def mM (rest:aN):Prop:=rest=[]∨∃ A B C,rest=[(bv,A),(aY,B),(aH,C)]
theorem Inv.pop {σ:ak}{q w F:Nat}{W:List Cf}{x:Cf}(h:Inv σ q w F (W++[x])):Inv (σ.set w (.list (W.map lj))) q w F W∧Cur (σ.set w (.list (W.map lj))) w W x:=by
 have hw:=h.hw
 have keep:∀ y∈W++[x],fy (σ.set w (.list (W.map lj))) y:=fun y hy=>by
  have o:=h.ok y hy
  exact o.set (Ne.symm (h.dw y hy)) (r8 hw o.2.1) (tB hw o.2.2)
 have pw:=List.pairwise_append.mp h.pw
 refine⟨⟨?_,rV hw,fun y hy=>keep y (mem_append_left _ hy),fun y hy=>h.dw y (mem_append_left _ hy),pw.1,fun y hy=>h.run y (mem_append_left _ hy),fun y hy=>h.len y (mem_append_left _ hy),?_⟩,⟨keep x (by simp),h.dw x (by simp),fun y hy=>?_⟩⟩
 ·rw[rL (r8 hw h.hq)];exact h.hq
 ·have:=h.wl;rw[length_append] at this;exact re this (by simp +arith only)
 ·have d:=pw.2.2 y hy x (by simp)
  exact⟨d.1.symm,d.2.1.symm,d.2.2.symm⟩
theorem eq_807 {a cE xc lW lE F F' M:Nat}(h:21*(a+xc)+(lW+1)≤M)(h4:cE+(F - F')≤xc)(h5:lE≤20*(F - F')):21*(a+cE)+(lW+lE)<M:=by
 generalize F - F'=d at *;exact rZ (Nat.add_le_add h (Nat.add_le_add (Nat.mul_le_mul_left 21 h4) h5)) (by simp +arith only)
theorem eq_808 {a cE xc F F':Nat}(h:a+xc<F)(h4:cE+(F - F')≤xc)(h1:F'≤F):a+cE<F':=by
 obtain⟨d,rfl⟩:=Nat.exists_eq_add_of_le h1
 rw[Nat.add_sub_cancel_left] at h4
 exact re (Nat.add_le_add h4 h) (by simp +arith only)
theorem eq_809 {n q w:Nat}{v1 v2:PV}(hn:62≤n):∀ (M:Nat){F k:Nat}{σ:ak}{W:List Cf}{rest:aN}{K:KR},mM rest→Inv σ q w F W→21*gw W+W.length≤M→gw W<F→M<k→
  (hU W≠0→∀ i ρ σ',K (.ret (.ref i)) ρ σ')→
  (hU W=0→∀ rest' σ',mM rest'→K .next (qG q w v1 v2 rest') σ')→
  bj (fun ρ σ K=>bR an.tab (ae an n) py ρ σ (bK K)) (bu an.tab (ae an n) pz) k (qG q w v1 v2 rest) σ K:=by
 intro M
 induction M using Nat.strongRecOn with
 | ind M ih=>
  intro F k σ W rest K hr hi hM hF hk kF kN
  obtain⟨k,rfl⟩:∃ m,k=m+1:=⟨k - 1,by exact rq hk⟩
  have hw:=hi.hw
  rcases List.eq_nil_or_concat W with rfl | ⟨W0,x,rfl⟩
  ·have go:=fun r σ' h=>kN rfl r σ' h
   refine s8 hw ?_
   exact go _ _ hr
  ·rw[List.concat_eq_append] at *
   have hq:=hi.hq
   obtain⟨hi1,hc1⟩:=hi.pop
   have hsc:hU (W0++[x])=hU W0+x.sc:=by simp[hU]
   have hcc:gw (W0++[x])=gw W0+x.c:=by simp[gw]
   have hM':21*(gw W0+x.c)+(W0.length+1)≤M:=by rw[← hcc];simpa using hM
   have hF':gw W0+x.c<F:=hcc▸hF
   have hlen:(W0++[x]).length=W0.length+1:=by simp
   have hie:((W0++[x]).map lj).isEmpty=false:=by simp
   have hla:((W0++[x]).map lj).getLast?=some (.mix [.ref x.l,.ref x.s]):=by simp[lj]
   have hdl:((W0++[x]).map lj).dropLast=W0.map lj:=by simp
   have hwl:=hi.wl
   have st:=fun K' kF' kN'=>eq_806 (n:=n) (q:=q) (w:=w) (K:=K') (by exact Nat.le_of_succ_le hn) (hi.run x (by simp)) hi1 hc1 (by exact re (Nat.add_le_add (Nat.le_of_eq hcc.symm) hF) (by simp +arith only)) (hi.len x (by simp)) kF' kN'
   have next:=fun(σ':ak)(E:List Cf) (F':Nat)(h1:F'≤F)(h2:Inv σ' q w F' (W0++E))(h3:hU E=x.sc)(h4:gw E+(F - F')≤x.c)(h5:E.length≤20*(F - F'))(A B C:PV)=>by
    have e1:hU (W0++E)=hU (W0++[x]):=by rw[tN,hsc,h3]
    have a1:21*gw (W0++E)+(W0++E).length<M:=by rw[tG,length_append];exact eq_807 hM' h4 h5
    have a2:gw (W0++E)<F':=by rw[tG];exact eq_808 hF' h4 h1
    exact ih _ a1 (k:=k) (K:=K) (.inr ⟨A,B,C,rfl⟩) h2 (Nat.le_refl _) a2 (Nat.lt_of_lt_of_le a1 (Nat.le_of_lt_succ hk)) (fun h=>kF (e1▸h)) (fun h=>kN (e1▸h))
   rcases hr with rfl | ⟨A,B,C,rfl⟩
   all_goals
    conv=>whnf
    rw[hw]
    conv=>whnf
    rw[hie]
    refine rc (eq_194 hq) ?_
    refine rF (show decide ((0:Int)<(F:Int))=true from decide_eq_true (by lia)) ?_
    refine rF (eq_359 hw) ?_
    refine s8 hw ?_
    refine rc hla ?_
    conv=>whnf
    rw[length_map,rj (by exact sj hwl rfl)]
    conv=>whnf
    rw[hdl,se hi1.hq]
    conv=>whnf
    refine st _ (fun h i σ'=>?_) (fun σ' E F' h1 h2 h3 h4 h5=>?_)
    ·exact kF (fun e=>h (Nat.eq_zero_of_add_eq_zero (hsc▸e)).2) i _ σ'
    ·exact next σ' E F' h1 h2 h3 h4 h5 _ _ _
theorem eq_810 {n:Nat}{F:Int}{σ:ak}{K:KP}(k:K (.ref σ.length) (σ++[b0 F])):ae an (n+1) 1002 [KV,.p (.int F)] σ K:=by
 conv=>whnf
 rw[td sz]
 conv=>whnf
 rw[eq_102,td sz]
 conv=>whnf
 rw[eq_102]
 exact k
theorem eq_811 {Φ:b9}{x:Nat}{e t:T}{ρ:aN}{σ:ak}{K:KR}(h:bR an.tab Φ e ρ σ fun v σ=>bu an.tab Φ t (de x v ρ) σ K):bu an.tab Φ (.cons (.asg x e) t) ρ σ K:=h
theorem eq_206 {Φ:b9}{c b t:T}{ρ:aN}{σ:ak}{K:KR}(h:bj (fun ρ σ K=>bR an.tab Φ c ρ σ (bK K)) (bu an.tab Φ b) dF ρ σ fun r ρ σ=>match r with
  | .next=>bu an.tab Φ t ρ σ K
  | .ret v=>K (.ret v) ρ σ):bu an.tab Φ (.cons (.whl c b) t) ρ σ K:=h
theorem eq_812 {n q s r F sc c:Nat}{S:Sd}{g:G}{σ:ak}{K:KP}(hn:63≤n)(hR:Run S [g] sc c)(hq:σ[q]?=some (b0 F))(hs:bB σ s r S)(hF:c<F)(hF2:F≤4000)
  (kF:sc≠0→∀ i σ',K (.ref i) σ')(kN:sc=0→∀ σ',K (.p .none) σ') :
  ae an n 30 [.ref q,.p (.lst [gD g]),.ref s] σ K:=by
 obtain⟨n,rfl⟩:∃ m,n=m+1:=⟨n - 1,by exact rq hn⟩
 refine rg rfl rfl (rk rfl ?_)
 have lq:=tA hq
 have ls:=tA hs.1
 have lr:=tA hs.2
 have hi:Inv ((σ++[Cell.list ((cu [g]).map .p)])++[Cell.list [.mix [.ref σ.length,.ref s]]]) q (σ++[Cell.list ((cu [g]).map .p)]).length F [⟨σ.length,s,r,S,[g],sc,c⟩]:=by
  refine⟨rE (rE hq),sz,?_,?_,List.pairwise_singleton _ _,?_,?_,?_⟩
  ·intro y hy
   rw[mem_singleton.mp hy]
   exact⟨rE sz,rE (rE hs.1),rE (rE hs.2)⟩
  ·intro y hy
   rw[mem_singleton.mp hy]
   show σ.length≠(σ++[Cell.list ((cu [g]).map .p)]).length
   simp
  ·intro y hy
   rw[mem_singleton.mp hy]
   exact hR
  ·intro y hy
   rw[mem_singleton.mp hy]
   show 1+20*F≤80020
   exact re (Nat.mul_le_mul_left 20 hF2) (by simp +arith only)
  ·show 1+20*F≤80020
   exact re (Nat.mul_le_mul_left 20 hF2) (by simp +arith only)
 refine eq_6 (ρ:=[(ah,.ref q),(et,.p (.lst [gD g])),(au,.ref s)]) rfl ?_
 refine eq_811 (t:=.cons (.whl py pz) (.cons (.ret (.con .none)) .nil)) ?_
 generalize hX:(fun v σ=>bu an.tab (ae an n) (T.cons (.whl py pz) (.cons (.ret (.con .none)) .nil)) (de cp v [(ah,.ref q),(et,.p (.lst [gD g])),(au,.ref s)]) σ fun r J σ=>K (kH r) σ)=X
 conv=>whnf
 subst hX
 refine eq_206 ?_
 refine eq_809 (n:=n) (q:=q) (v1:=.p (.lst [gD g])) (v2:=.ref s) (rest:=[]) (by exact Nat.le_of_succ_le_succ hn) (21*c+1) (F:=F) (k:=dF) (.inl rfl) hi (by simp[gw]) (by simpa [gw] using hF) (by unfold dF;lia) (fun h i ρ σ'=>?_) (fun h rest' σ' hr=>?_)
 ·exact kF (by simpa [hU] using h) i σ'
 ·have:=kN (by simpa [hU] using h) σ'
  rcases hr with rfl | ⟨A,B,C,rfl⟩<;>exact this
theorem eq_813 {τ:ak}{S:Sd}:bB (τ++[gJ (τ.length+1) S,gu S]) τ.length (τ.length+1) S:=by
 constructor
 ·rw[List.getElem?_append_right (Nat.le_refl _)];simp
 ·rw[List.getElem?_append_right (by exact Nat.le_add_right _ _)];simp
noncomputable def S0:Sd:=⟨0,none⟩
def eS (c b:Kd)(ok:Bool):Prop:=∃ sc m,Run S0 [(false,c,b)] sc m∧m<4000∧(sc≠0↔ok=true)
noncomputable def qH (a b:Kd)(rest:aN):aN:=(aj,KV)::(aw,.p (kD a))::(am,.p (kD b))::(ct,.p (.int 4000))::rest
def mN (rest:aN):Prop:=rest=[]∨(∃ A B,rest=[(cZ,A),(eN,B)])
theorem eq_375 {x y:Nat}{v:PV}{ρ:aN}{o:Option PV}(h:y≠x)(r:ρ.lookup y=o):(de x v ρ).lookup y=o:=by rw[sq,if_neg h];exact r
theorem eq_376 {n:Nat}{b c:Kd}{ok:Bool}{ρ:aN}{σ:ak}{K:KR}(hn:64≤n)(r1:ρ.lookup aj=some KV)(r2:ρ.lookup am=some (.p (kD b)))(r3:ρ.lookup ct=some (.p (.int 4000)))(r4:ρ.lookup cZ=some (.p (kD c)))(h:eS c b ok)
  (k0:ok=true→∀ v σ',K .next (de eN v ρ) σ')(k1:ok=false→∀ ρ σ',K (.ret (.p (.bool false))) ρ σ'):bu an.tab (ae an n) qc ρ σ K:=by
 obtain⟨sc,m,hR,hm,hs⟩:=h
 have run:=fun q s r σ K=>eq_812 (n:=n) (q:=q) (s:=s) (r:=r) (σ:=σ) (K:=K) (F:=4000) (by exact Nat.le_of_succ_le hn) hR
 obtain⟨n',hn'⟩:∃ m,n=m+1:=⟨n - 1,by exact rq hn⟩
 refine rc r1 ?_
 refine rc r3 ?_
 conv=>whnf
 rw[hn']
 refine eq_810 ?_
 rw[← hn']
 refine rc eq_205 ?_
 refine rc (se sz) ?_
 refine rc rfl ?_
 refine sr rfl ?_
 refine rc (eq_375 (by decide) r4) ?_
 refine rc (eq_375 (by decide) r2) ?_
 conv=>whnf
 rw[hn']
 refine eq_748 ?_
 rw[← hn']
 conv=>whnf
 exact run _ _ _ _ _ (rE sz) eq_813 hm (Nat.le_refl _) (fun h0 i σ'=>k0 (hs.mp h0) _ _) fun h0 σ'=>k1 (by cases e:ok with
   | false=>rfl
   | true=>exact absurd h0 (hs.mpr e)) _ _
theorem eq_814 {n:Nat}{a b:Kd}{ok:Kd→Bool}{all:List PV}{vi:PV}(hn:64≤n)(hv:∀ (σ:ak)(R:Prop),R→dE vi all σ R){l:List Kd}:∀ {rest:aN}{σ:ak}{K:KR},mN rest→(∀ c∈l,eS c b (ok c))→
  (l.all ok=false→∀ ρ σ,K (.ret (.p (.bool false))) ρ σ)→(l.all ok=true→∀ rest σ,mN rest→K .next (qH a b rest) σ)→
  hZ vi all (fun y ρ σ K=>match bo (.one cZ) y ρ with
   | some ρ'=>bu an.tab (ae an n) qc ρ' σ K
   | none=>False) (List.map PV.p (kDs l)) (qH a b rest) σ K:=by
 induction l with
 | nil=>exact fun hr h kF kT=>hv _ _ (kT rfl _ _ hr)
 | cons c l ih=>
  intro rest σ K hr h kF kT
  refine hv _ _ ?_
  have go:=fun A B σ' (hc:ok c=true)=>ih (rest:=[(cZ,A),(eN,B)]) (σ:=σ') (K:=K) (.inr ⟨A,B,rfl⟩) (fun d hd=>h d (mem_cons_of_mem _ hd)) (fun e=>kF (by rw[List.all_cons,e,Bool.and_false])) (fun e=>kT (aI hc e))
  have kF':ok c=false→∀ ρ σ,K (.ret (.p (.bool false))) ρ σ:=fun e=>kF (by rw[List.all_cons,e,Bool.false_and])
  rcases hr with rfl | ⟨A,B,rfl⟩
  ·exact eq_376 hn rfl rfl rfl rfl (h c mem_cons_self) (fun hc v σ'=>go _ v σ' hc) kF'
  ·exact eq_376 hn rfl rfl rfl rfl (h c mem_cons_self) (fun hc v σ'=>go _ v σ' hc) kF'
theorem eq_34 {n:Nat}{a b:Kd}{ok:Kd→Bool}{σ:ak}{K:KP}(hn:65≤n)(hab:a≠b)(hd:a.dep≤20)(hw:a.wid≤300)(hc:lL a=true)(h:∀ c∈cs a,eS c b (ok c))(k:K (.p (.bool ((cs a).all ok))) σ):ae an n 46 [KV,.p (kD a),.p (kD b)] σ K:=by
 obtain⟨n,rfl⟩:∃ m,n=m+1:=⟨n - 1,by exact rq hn⟩
 refine rg rfl rfl (rJ rfl rfl ?_)
 conv=>whnf
 refine mT (r6 hd) ?_
 rw[rU,decide_eq_false hab]
 conv=>whnf
 refine eq_735 n a (by exact rZ (Nat.add_le_add hn (Nat.mul_le_mul_left 2 hd)) (by simp +arith only)) hc hw ?_
 refine eq_814 (ok:=ok) (a:=a) (b:=b) (rest:=[]) (by exact Nat.le_of_succ_le_succ hn) (fun J=>rM) (.inl rfl) h (fun e ρ σ'=>?_) (fun e rest σ' hr=>?_)
 ·rw[e] at k;exact k
 ·rw[e] at k
  rcases hr with rfl | ⟨A,B,rfl⟩<;>exact k
theorem sub_self {n:Nat}{a:Kd}{σ:ak}{K:KP}(hn:65≤n)(hd:a.dep≤20)(k:K (.p (.bool true)) σ):ae an n 46 [KV,.p (kD a),.p (kD a)] σ K:=by
 obtain⟨n,rfl⟩:∃ m,n=m+1:=⟨n - 1,by exact rq hn⟩
 refine rg rfl rfl (rJ rfl rfl ?_)
 conv=>whnf
 refine mT (r6 hd) ?_
 rw[rU,decide_eq_true rfl]
 exact k
def fg (S:Sd)(way:List G) (A B:Nat)(ok:Bool):Prop:=∃ s w,(∀ gs s' c',Run S gs s' c'→Run S (gs++way) (s*s') (w+s*c'))∧s≤A∧w≤B∧(s≠0↔ok=true)
def fX (S:Sd)(ws:List (List G)) (A B:Nat)(ok:Bool):Prop:=∃ s w,(∀ gs s' c',Run S gs s' c'→RunAll S gs ws (s*s') (w+s*c'))∧s≤A∧w≤B∧(s≠0↔ok=true)
abbrev GB (S:Sd)(g:G) (A B:Nat)(ok:Bool):Prop:=fg S [g] A B ok
section
variable {S:Sd}{A B A' B':Nat}{ok ok':Bool}
theorem eq_108:fg S [] 1 0 true:=⟨1,0,fun gs s c h=>by rw[append_nil,Nat.one_mul,Nat.one_mul,Nat.zero_add];exact h,Nat.le_refl _,Nat.le_refl _,by simp⟩
theorem sD {u v:List G}(h:fg S u A B ok)(h':fg S v A' B' ok'):fg S (u++v) (A'*A) (B'+A'*B) (ok&&ok'):=by
 obtain⟨s,w,r,h1,h2,h3⟩:=h
 obtain⟨s',w',r',h1',h2',h3'⟩:=h'
 refine⟨s'*s,w'+s'*w,fun gs a c h=>?_,Nat.mul_le_mul h1' h1,Nat.add_le_add h2' (Nat.mul_le_mul h1' h2),?_⟩
 ·have:=r' _ _ _ (r gs a c h)
  rw[← append_assoc,Nat.mul_assoc,Nat.add_assoc,Nat.mul_assoc,← Nat.mul_add]
  exact this
 ·rw[Bool.and_eq_true,← h3,← h3']
  constructor
  ·intro h
   exact⟨fun e=>h (by rw[e,Nat.mul_zero]),fun e=>h (by rw[e,Nat.zero_mul])⟩
  ·intro h
   exact Nat.mul_ne_zero h.2 h.1
theorem rB {u:List G}(h:fg S u A B ok)(hA:A≤A')(hB:B≤B'):fg S u A' B' ok:=by
 obtain⟨s,w,r,h1,h2,h3⟩:=h
 exact⟨s,w,r,Nat.le_trans h1 hA,Nat.le_trans h2 hB,h3⟩
theorem eq_109:fX S [] 0 0 false:=⟨0,0,fun gs s c h=>by rw[Nat.zero_mul,Nat.zero_mul];exact .nil,Nat.le_refl _,Nat.le_refl _,by simp⟩
theorem eq_207 {u:List G}{us:List (List G)}(h:fg S u A B ok)(h':fX S us A' B' ok'):fX S (u::us) (A+A') (B+B') (ok||ok'):=by
 obtain⟨s,w,r,h1,h2,h3⟩:=h
 obtain⟨s',w',r',h1',h2',h3'⟩:=h'
 refine⟨s+s',w+w',fun gs a c h=>?_,Nat.add_le_add h1 h1',Nat.add_le_add h2 h2',?_⟩
 ·have:=RunAll.cons (r gs a c h) (r' gs a c h)
  rw[Nat.add_mul,Nat.add_mul,show w+w'+(s*c+s'*c)=w+s*c+(w'+s'*c) from Nat.add_add_add_comm ..]
  exact this
 ·rw[Bool.or_eq_true,← h3,← h3']
  exact⟨fun h=>(Nat.eq_zero_or_pos s).elim (fun e=>.inr fun e'=>h (by rw[e,e'])) fun p=>.inl (Nat.ne_of_gt p),fun h e=>h.elim (fun q=>q (Nat.eq_zero_of_add_eq_zero e).1) fun q=>q (Nat.eq_zero_of_add_eq_zero e).2⟩
theorem rS {g:G}{ws:List (List G)}(hs:aF S g ws S)(hsm:ji ws)(h:fX S ws A B ok):GB S g A (B+1) ok:=by
 obtain⟨s,w,r,h1,h2,h3⟩:=h
 refine⟨s,w+1,fun gs a c h=>?_,h1,by exact Nat.succ_le_succ h2,h3⟩
 have:=Run.step hs hsm (r gs a c h)
 rw[show w+1+s*c=w+s*c+1 from Nat.add_right_comm ..]
 exact this
theorem sf {u:List G}(h:fg S u A B ok):fX S [u] A B ok:=by
 have:=eq_207 h eq_109
 simpa using this
theorem eq_377:ji []:=⟨by simp,fun w h=>by cases h⟩
theorem small_one {w:List G}(h:w.length≤20):ji [w]:=⟨by simp,fun v hv=>by rw[mem_singleton.mp hv];exact h⟩
theorem sg {g:G}(hs:aF S g [[]] S):GB S g 1 1 true:=rS hs (small_one (by simp)) (sf eq_108)
theorem th {g:G}(hs:aF S g [] S):GB S g 1 1 false:=rB (rS hs eq_377 eq_109) (by exact qZ rfl) (by exact qZ rfl)
end
mutual
noncomputable def Cs:Kd→Bool
 | .nam m=>ao.contains m
 | .fn _=>true
 | .typ m=>ao.contains m
 | .arr m _=>ao.contains m
 | .tup ks r=>(Nat.ble ks.length 2&&(match r with
  | none=>true
  | some m=>ao.contains m))&&Css ks
 | _=>false
noncomputable def Css:List Kd→Bool
 | []=>true
 | k::ks=>Cs k&&Css ks
end
mutual
noncomputable def Kl:Kd→Bool
 | .nam m=>ao.contains m
 | .fn _=>true
 | .typ m=>ao.contains m
 | .arr m _=>ao.contains m
 | .tup ks r=>(Nat.ble ks.length 2&&(match r with
  | none=>true
  | some m=>ao.contains m))&&Kls ks
 | .uni ks=>(Nat.ble 1 ks.length&&Nat.ble ks.length 18)&&Kls ks
 | _=>false
noncomputable def Kls:List Kd→Bool
 | []=>true
 | k::ks=>Kl k&&Kls ks
end
noncomputable def l6 (t:Option Nat):Kd→Bool
 | .nam m=>match t with
  | some o=>(chain m).contains o
  | none=>false
 | _=>false
noncomputable def ln:Option Nat→Option Nat→Bool
 | none,_=>true
 | some m,some o=>(chain m).contains o
 | some _,none=>false
mutual
noncomputable def bL:Kd→Kd→Bool
 | c,.uni ls=>clea c ls
 | c,.tup ls t=>match c with
  | .tup ks r=>clet ks ls t&&ln r t
  | _=>false
 | c,.nam o=>match c with
  | .nam m=>(chain m).contains o
  | _=>false
 | c,.fn o=>match c with
  | .fn m=>m==o
  | _=>false
 | c,.typ o=>match c with
  | .typ m=>m==o
  | _=>false
 | c,.arr o j=>match c with
  | .arr m i=>m==o&&i==j
  | _=>false
 | _,_=>false
noncomputable def clea:Kd→List Kd→Bool
 | _,[]=>false
 | c,l::ls=>bL c l||clea c ls
noncomputable def clet:List Kd→List Kd→Option Nat→Bool
 | ks,[],t=>ks.all (l6 t)
 | ks,l::ls,t=>match ks with
  | []=>false
  | k::ks=>bL k l&&clet ks ls t
end
mutual
noncomputable def sB:Kd→Nat
 | .uni ls=>sBs ls
 | .tup ls _=>sBp ls
 | _=>1
noncomputable def sBs:List Kd→Nat
 | []=>0
 | k::ks=>sB k+sBs ks
noncomputable def sBp:List Kd→Nat
 | []=>1
 | k::ks=>sBp ks*sB k
end
mutual
noncomputable def wB:Kd→Nat
 | .uni ls=>wBs ls+1
 | .tup ls _=>wBp ls+4
 | _=>5
noncomputable def wBs:List Kd→Nat
 | []=>0
 | k::ks=>wB k+wBs ks
noncomputable def wBp:List Kd→Nat
 | []=>0
 | k::ks=>wBp ks+sBp ks*wB k
end
theorem eq_65 {ks:List Kd}{k:Kd}(h:Css ks=true):k∈ks→Cs k=true:=eq_189 (Q:=fun ks=>Css ks=true) aT h
theorem eq_35 {ks:List Kd}{k:Kd}(h:Kls ks=true):k∈ks→Kl k=true:=eq_189 (Q:=fun ks=>Kls ks=true) aT h
theorem eq_815 (k:Kd):Cs k=true→k.ne=true:=
 Kd.rec (motive_1:=fun k=>Cs k=true→k.ne=true) (motive_2:=fun ks=>Css ks=true→Kd.nes ks=true) ff (fun J J=>rfl) (fun J=>ff) (fun J J=>rfl) (fun J J=>rfl) (fun J J J=>rfl) (fun J J ih h=>ih (aT h).2) (fun J J=>ff) ff ff (fun J J=>ff) (fun J=>rfl) (fun J J ih ihs h=>aI (ih (aT h).1) (ihs (aT h).2)) k
theorem eq_378 (k:Kd):Cs k=true→k.wid≤2:=
 Kd.rec (motive_1:=fun k=>Cs k=true→k.wid≤2) (motive_2:=fun ks=>Css ks=true→Kd.wids ks≤2) ff (fun J J=>qZ rfl) (fun J=>ff) (fun J J=>qZ rfl) (fun J J=>qZ rfl) (fun J J J=>qZ rfl) (fun J J ih h=>Nat.max_le.mpr ⟨Nat.le_of_ble_eq_true (aT (aT h).1).1,ih (aT h).2⟩) (fun J J=>ff) ff ff (fun J J=>ff) (fun J=>qZ rfl) (fun J J ih ihs h=>Nat.max_le.mpr ⟨ih (aT h).1,ihs (aT h).2⟩) k
theorem eq_816 (c:Kd)(h:Cs c=true):jP c=false∧fE c=false∧lM c=false∧kk c=false:=by
 cases c<;>first | exact⟨rfl,rfl,rfl,rfl⟩ | exact ff h
theorem rQ {c:Kd}(h:Cs c=true)(hd:c.dep≤20):Left c:=
 have f:=eq_816 c h
 ⟨⟨f.1,hd,u1 (eq_378 c h) rfl⟩,f.2.1,f.2.2.1,f.2.2.2,eq_815 c h⟩
theorem rn {m:Nat}(h:ao.contains m=true):m∈ao:=List.mem_of_elem_eq_true h
theorem eq_66:∀ m∈ao,(chain m).contains m=true:=by decide +kernel
theorem eq_817:∀ m∈ao,∀ o∈ao,(chain m).contains o=true→(chain o).contains m=true→m=o:=by decide +kernel
theorem eq_67 {r:Option Nat}(h:(match r with
  | none=>true
  | some m=>ao.contains m)=true):ln r r=true:=by
 cases r with
 | none=>rfl
 | some m=>exact eq_66 m (rn h)
theorem eq_68 (c:Kd):Cs c=true→bL c c=true:=
 Kd.rec (motive_1:=fun c=>Cs c=true→bL c c=true) (motive_2:=fun ks=>∀ r,Css ks=true→clet ks ks r=true) ff (fun m h=>eq_66 m (rn h)) (fun J=>ff) (fun J J=>beq_self_eq_true _) (fun J J=>beq_self_eq_true _) (fun J J J=>aI (beq_self_eq_true _) (beq_self_eq_true _))
  (fun J r ih h=>aI (ih r (aT h).2) (eq_67 (aT (aT h).1).2)) (fun J J=>ff) ff ff (fun J J=>ff) (fun J J=>rfl) (fun J J ih ihs r h=>aI (ih (aT h).1) (ihs r (aT h).2)) c
section
variable {S:Sd}
theorem eq_110 {m o:Nat}(hm:m∈ao)(ho:o∈ao):GB S (false,.nam m,.nam o) 1 1 ((chain m).contains o):=by
 by_cases e:m=o
 ·subst e
  rw[eq_66 m hm]
  exact sg (sH (qZ rfl))
 ·have st:=eq_371 (S:=S) hm ho e
  cases h:(chain m).contains o with
  | true=>rw[if_pos (List.mem_of_elem_eq_true h)] at st;exact sg st
  | false=>rw[if_neg fun q=>ff (h.symm.trans (List.elem_eq_true_of_mem q))] at st;exact th st
theorem eq_379 {m o:Nat}(hm:m∈ao)(ho:o∈ao):GB S (true,.nam m,.nam o) 1 3 (m==o):=by
 by_cases e:m=o
 ·subst e
  rw[beq_self_eq_true]
  exact rB (sg (sH (qZ rfl))) (Nat.le_refl _) (qZ rfl)
 ·have w:=rS (eq_201 (S:=S) (a:=.nam m) (b:=.nam o) (qZ rfl) (r7 e) rfl rfl) (small_one (qZ rfl)) (sf (sD (eq_110 (S:=S) hm ho) (eq_110 (S:=S) ho hm)))
  rw[eq_62 e]
  have ee:((chain m).contains o&&(chain o).contains m)=false:=by
   cases q:(chain m).contains o&&(chain o).contains m with
   | false=>rfl
   | true=>exact absurd (eq_817 m hm o ho (aT q).1 (aT q).2) e
  rw[ee] at w
  exact rB w (qZ rfl) (qZ rfl)
theorem eq_380 {i j:Nat}:GB S (true,.num i,.num j) 1 1 (i==j):=by
 by_cases e:i=j
 ·subst e
  rw[beq_self_eq_true]
  exact sg (sH (qZ rfl))
 ·rw[eq_62 e]
  exact th (eq_368 e)
theorem eq_381:∀ o∈ao,o≠dJ∧o≠bV:=by decide +kernel
theorem eq_111 {a b:Nat}(h:a≠b):D.eqv (bJ a) (bJ b)=false:=by
 cases q:D.eqv (bJ a) (bJ b)
 ·rfl
 ·exact absurd (eq_347 q) h
theorem eq_382 {m o:Nat}(ho:o∈ao):nM (.typ m) (.nam o)=true:=by
 have e:=eq_111 (eq_381 o ho).1
 show (_&&(_&&(_&&(!((Kd.typ m).hdN==be&&D.eqv (bJ o) (bJ dJ))&&_))))=true
 rw[e,Bool.and_false]
 kernel_rfl
theorem eq_383 {m o:Nat}(ho:o∈ao):nM (.fn m) (.nam o)=true:=by
 have e:=eq_111 (eq_381 o ho).2
 show (_&&(_&&(_&&(_&&!((Kd.fn m).hdN==gc&&D.eqv (bJ o) (bJ bV))))))=true
 rw[e,Bool.and_false]
 kernel_rfl
end
theorem eq_818 (k:Kd):Kl k=true→1≤sB k:=
 Kd.rec (motive_1:=fun k=>Kl k=true→1≤sB k) (motive_2:=fun ks=>(Kls ks=true→1≤ks.length→1≤sBs ks)∧(Kls ks=true→1≤sBp ks)) (fun J=>Nat.le_refl _) (fun J J=>Nat.le_refl _) (fun J J=>Nat.le_refl _) (fun J J=>Nat.le_refl _) (fun J J=>Nat.le_refl _) (fun J J J=>Nat.le_refl _) (fun J J ih h=>ih.2 (aT h).2)
  (fun J ih h=>ih.1 (aT h).2 (Nat.le_of_ble_eq_true (aT (aT h).1).1)) (fun J=>Nat.le_refl _) (fun J=>Nat.le_refl _) (fun J J J=>Nat.le_refl _) ⟨fun J h=>h,fun J=>Nat.le_refl _⟩ (fun J J ih ihs=>⟨fun h J=>Nat.le_trans (ih (aT h).1) (Nat.le_add_right _ _),fun h=>Nat.mul_pos (ihs.2 (aT h).2) (ih (aT h).1)⟩) k
theorem ti (k:Kd):Kl k=true→1≤sB k:=eq_818 k
theorem eq_819 (ks:List Kd)(h:Kls ks=true):1≤sBp ks:=by
 induction ks with
 | nil=>exact Nat.le_refl _
 | cons k ks ih=>exact Nat.mul_pos (ih (aT h).2) (ti k (aT h).1)
theorem tj {k:Kd}:1≤wB k:=by cases k<;>first | exact Nat.le_add_left 1 _ | exact Nat.le_trans (qZ rfl) (Nat.le_add_left 4 _)
section
variable {S:Sd}
theorem rC {g:G}{A B:Nat}(h:aF S g [] S)(hA:1≤A)(hB:1≤B):GB S g A B false:=rB (th h) hA hB
theorem eq_208 {a n b k c:Nat}(h:n≤b)(q:Nat.ble (b+k) c=true):a+n+k≤a+c:=by rw[Nat.add_assoc];exact Nat.add_le_add_left (u9 h q) a
theorem eq_384 {o:Nat}(ho:o∈ao){c:Kd}(hc:Cs c=true)(hd:c.dep≤20):GB S (false,c,.nam o) 1 1 (bL c (.nam o)):=by
 have l:=rQ hc hd
 cases c with
 | nam m=>exact eq_110 (rn hc) ho
 | fn m=>exact th (ry l rfl rfl rfl rfl (fun e=>nomatch e) (r7 (rN o ho)) (eq_383 ho))
 | typ m=>exact th (ry l rfl rfl rfl rfl (fun e=>nomatch e) (r7 (rN o ho)) (eq_382 ho))
 | arr m i=>exact th (eq_373 ho)
 | tup ks r=>exact th (ry l rfl rfl rfl rfl (fun e=>nomatch e) (r7 (rN o ho)) (by kernel_rfl))
 | _=>exact ff hc
theorem eq_820 {o:Nat}(c:Kd):l6 (some o) c=bL c (.nam o):=by cases c<;>rfl
theorem eq_821 {o:Nat}(ho:o∈ao){ks:List Kd}(h:Css ks=true)(hd:∀ k∈ks,k.dep≤20):fg S (zg ks [] (some o)) 1 ks.length (ks.all (l6 (some o))):=by
 induction ks with
 | nil=>exact eq_108
 | cons k ks ih=>
  have w:=sD (u:=[(false,k,.nam o)]) (eq_384 (S:=S) ho (aT h).1 (hd k mem_cons_self)) (ih (aT h).2 fun x hx=>hd x (mem_cons_of_mem _ hx))
  rw[List.all_cons,eq_820]
  exact rB w (Nat.le_refl _) (Nat.le_refl _)
theorem eq_822 {t:Option Nat}(ht:∀ o,t=some o→o∈ao)(ks:List Kd):∀ {ls:List Kd},Css ks=true→Kls ls=true→(∀ k∈ks,k.dep≤20)→ls.length≤ks.length→(t=none→ks.length=ls.length)→
  (∀ k∈ks,∀ l∈ls,GB S (false,k,l) (sB l) (wB l) (bL k l))→fg S (zg ks ls t) (sBp ls) (wBp ls+ks.length) (clet ks ls t):=by
 induction ks with
 | nil=>
  intro ls h hl hd hlen hn g
  cases ls with
  | nil=>exact eq_108
  | cons l ls=>exact absurd hlen (Nat.not_succ_le_zero _)
 | cons k ks ih=>
  intro ls h hl hd hlen hn g
  cases ls with
  | nil=>
   cases t with
   | none=>exact absurd (hn rfl) (Nat.succ_ne_zero _)
   | some o=>exact rB (eq_821 (S:=S) (ht o rfl) h hd) (Nat.le_refl _) (Nat.le_add_left _ _)
  | cons l ls=>
   refine rB (sD (u:=[(false,k,l)]) (g k mem_cons_self l mem_cons_self) (ih (aT h).2 (aT hl).2 (fun x hx=>hd x (mem_cons_of_mem _ hx)) (Nat.le_of_succ_le_succ hlen) (fun e=>Nat.succ.inj (hn e)) fun a ha b hb=>g a (mem_cons_of_mem _ ha) b (mem_cons_of_mem _ hb))) (Nat.le_refl _) ?_
   rw[Nat.add_right_comm]
   exact Nat.le_succ _
theorem eq_823 {c:Kd}{ls:List Kd}(h:∀ l∈ls,GB S (false,c,l) (sB l) (wB l) (bL c l)):fX S (ls.map fun x=>[(false,c,x)]) (sBs ls) (wBs ls) (clea c ls):=by
 induction ls with
 | nil=>exact eq_109
 | cons l ls ih=>exact eq_207 (h l mem_cons_self) (ih fun x hx=>h x (mem_cons_of_mem _ hx))
theorem eq_824 {t:Option Nat}(ks:List Kd):∀ {ls:List Kd},ks.length<ls.length→clet ks ls t=false:=by
 induction ks with
 | nil=>exact fun {ls} h=>by cases ls with
  | nil=>exact absurd h (Nat.lt_irrefl _)
  | cons l ls=>rfl
 | cons k ks ih=>exact fun {ls} h=>by cases ls with
  | nil=>exact absurd h (Nat.not_lt_zero _)
  | cons l ls=>exact(congrArg (bL k l&&·) (ih (Nat.lt_of_succ_lt_succ h))).trans (Bool.and_false _)
theorem eq_825 (ks:List Kd):∀ {ls:List Kd},ls.length<ks.length→clet ks ls none=false:=by
 induction ks with
 | nil=>exact fun h=>absurd h (Nat.not_lt_zero _)
 | cons k ks ih=>exact fun {ls} h=>by cases ls with
  | nil=>cases k<;>rfl
  | cons l ls=>exact(congrArg (bL k l&&·) (ih (Nat.lt_of_succ_lt_succ h))).trans (Bool.and_false _)
theorem eq_36 {ks:List Kd}{r:Option Nat}{k:Kd}{n:Nat}(h:(Kd.tup ks r).dep≤n+1)(hk:k∈ks):k.dep≤n:=Nat.le_trans (su hk) (Nat.le_of_succ_le_succ h)
theorem eq_826 {ks ls:List Kd}{r t:Option Nat}(hc:Cs (.tup ks r)=true)(hl:Kl (.tup ls t)=true)(hd:(Kd.tup ks r).dep≤20)(ih:∀ k∈ks,∀ l∈ls,GB S (false,k,l) (sB l) (wB l) (bL k l))(he:Kd.tup ks r≠.tup ls t):GB S (false,.tup ks r,.tup ls t) (sB (.tup ls t)) (wB (.tup ls t)) (bL (.tup ks r) (.tup ls t)):=by
 have hpos:1≤sBp ls:=eq_819 _ (aT hl).2
 have h4:1≤wBp ls+4:=Nat.le_trans (qZ rfl) (Nat.le_add_left 4 _)
 have k2:ks.length≤2:=Nat.le_of_ble_eq_true (aT (aT hc).1).1
 have l2:ls.length≤2:=Nat.le_of_ble_eq_true (aT (aT hl).1).1
 have hdk:∀ k∈ks,k.dep≤20:=fun k hk=>Nat.le_succ_of_le (eq_36 (n:=19) hd hk)
 have ht:∀ o,t=some o→o∈ao:=fun o e=>by subst e;exact rn (aT (aT hl).1).2
 have hr:∀ o,r=some o→o∈ao:=fun o e=>by subst e;exact rn (aT (aT hc).1).2
 have st:=eq_107 (S:=S) (ls:=ls) (t:=t) (rQ hc hd) (u1 l2 rfl) he
 show GB S _ (sBp ls) (wBp ls+4) (clet ks ls t&&ln r t)
 by_cases q1:ks.length<ls.length
 ·rw[sV (oL (decide_eq_true q1))] at st
  rw[eq_824 ks q1]
  exact rC st hpos h4
 have q1':=decide_eq_false q1
 have hl1:=Nat.le_of_not_lt q1
 have w:=fun h=>eq_822 (S:=S) ht ks (aT hc).2 (aT hl).2 hdk hl1 h ih
 have sm:∀ ls t,(zg ks ls t).length≤20:=fun ls t=>by rw[eq_30];exact u1 k2 rfl
 cases t with
 | none=>
  cases r with
  | some m=>
   rw[sV (r:=some m) (t:=none) (oR rfl)] at st
   rw[show ln (some m) none=false from rfl,Bool.and_false]
   exact rC st hpos h4
  | none=>
   by_cases q2:ls.length<ks.length
   ·rw[sV (r:=none) (t:=none) (oR (decide_eq_true q2))] at st
    rw[eq_825 ks q2]
    exact rC st hpos h4
   ·rw[eq_13 (t:=none) (by rw[q1'];exact decide_eq_false q2)] at st
    rw[show ln none none=true from rfl,Bool.and_true]
    exact rB (rS st (small_one (sm _ _)) (sf (w fun J=>Nat.le_antisymm (Nat.le_of_not_lt q2) hl1))) (Nat.le_refl _) (eq_208 k2 rfl)
 | some o=>
  have w:=w fun e=>nomatch e
  cases r with
  | none=>
   rw[eq_13 (t:=some o) (by rw[q1'];rfl)] at st
   rw[show ln none (some o)=true from rfl,Bool.and_true]
   exact rB (rS st (small_one (sm _ _)) (sf w)) (Nat.le_refl _) (eq_208 k2 rfl)
  | some m=>
   rw[eq_363 q1'] at st
   refine rB (rS st (small_one (by rw[length_append,eq_30];exact u9 k2 rfl)) (sf (sD w (eq_110 (S:=S) (hr m rfl) (ht o rfl))))) (Nat.le_of_eq (Nat.one_mul _)) ?_
   rw[Nat.one_mul,Nat.add_comm 1]
   exact eq_208 (k:=2) k2 rfl
theorem eq_112 (n:Nat){c L:Kd}(_:L.dep≤n)(hc:Cs c=true)(hd:c.dep≤20)(hL:Kl L=true):GB S (false,c,L) (sB L) (wB L) (bL c L):=by
 refine Kd.rec (motive_1:=fun L=>∀ {c:Kd},Cs c=true→c.dep≤20→Kl L=true→GB S (false,c,L) (sB L) (wB L) (bL c L)) (motive_2:=fun ls=>∀ l∈ls,∀ {c:Kd},Cs c=true→c.dep≤20→Kl l=true→GB S (false,c,l) (sB l) (wB l) (bL c l))
  (fun J J h=>ff h) (fun o {c} hc hd hL=>rB (eq_384 (rn hL) hc hd) (Nat.le_refl _) (qZ rfl)) (fun J {_} J J h=>ff h) (fun o {c} hc hd hL=>?_) (fun o {c} hc hd hL=>?_) (fun o j {c} hc hd hL=>?_) (fun ls t ih {c} hc hd hL=>?_) (fun ls ih {c} hc hd hL=>?_) (fun J J h=>ff h) (fun J J h=>ff h) (fun J J {_} J J h=>ff h) (fun J h=>nomatch h) (fun l ls ih ihs x hx=>?_) L hc hd hL
 ·by_cases he:c=.fn o
  ·subst he
   rw[eq_68 _ hc]
   exact rB (sg (sH hd)) (Nat.le_refl _) (qZ rfl)
  ·have l:=rQ hc hd
   cases c with
   | fn m=>
    rw[show bL (.fn m) (.fn o)=false from eq_62 fun e=>he (congrArg _ e)]
    exact rC (ry l rfl rfl rfl rfl he (fun e=>nomatch e) (by kernel_rfl)) (Nat.le_refl _) (qZ rfl)
   | nam m=>exact rC (ry l rfl rfl rfl rfl he (fun e=>nomatch e) (by kernel_rfl)) (Nat.le_refl _) (qZ rfl)
   | typ m=>exact rC (ry l rfl rfl rfl rfl he (fun e=>nomatch e) (by kernel_rfl)) (Nat.le_refl _) (qZ rfl)
   | arr m i=>exact rC (ry l rfl rfl rfl rfl he (fun e=>nomatch e) (by kernel_rfl)) (Nat.le_refl _) (qZ rfl)
   | tup ks r=>exact rC (ry l rfl rfl rfl rfl he (fun e=>nomatch e) (by kernel_rfl)) (Nat.le_refl _) (qZ rfl)
   | _=>exact ff hc
 ·by_cases he:c=.typ o
  ·subst he
   rw[eq_68 _ hc]
   exact rB (sg (sH hd)) (Nat.le_refl _) (qZ rfl)
  ·have l:=rQ hc hd
   cases c with
   | typ m=>exact rB (rS (eq_786 fun e=>he (congrArg _ e)) (small_one (qZ rfl)) (sf (eq_379 (rn hc) (rn hL)))) (Nat.le_refl _) (qZ rfl)
   | nam m=>exact rC (ry l rfl rfl rfl rfl he (fun e=>nomatch e) (by kernel_rfl)) (Nat.le_refl _) (qZ rfl)
   | fn m=>exact rC (ry l rfl rfl rfl rfl he (fun e=>nomatch e) (by kernel_rfl)) (Nat.le_refl _) (qZ rfl)
   | arr m i=>exact rC (ry l rfl rfl rfl rfl he (fun e=>nomatch e) (by kernel_rfl)) (Nat.le_refl _) (qZ rfl)
   | tup ks r=>exact rC (ry l rfl rfl rfl rfl he (fun e=>nomatch e) (by kernel_rfl)) (Nat.le_refl _) (qZ rfl)
   | _=>exact ff hc
 ·by_cases he:c=.arr o j
  ·subst he
   rw[eq_68 _ hc]
   exact rB (sg (sH hd)) (Nat.le_refl _) (qZ rfl)
  ·have l:=rQ hc hd
   cases c with
   | arr m i=>exact rB (rS (S:=S) (eq_783 he) (small_one (qZ rfl)) (sf (sD (eq_379 (rn hc) (rn hL)) eq_380))) (Nat.le_refl _) (Nat.le_refl _)
   | nam m=>exact rC (eq_780 (rn hc)) (Nat.le_refl _) (qZ rfl)
   | fn m=>exact rC (ry l rfl rfl rfl rfl he (fun e=>nomatch e) (by kernel_rfl)) (Nat.le_refl _) (qZ rfl)
   | typ m=>exact rC (ry l rfl rfl rfl rfl he (fun e=>nomatch e) (by kernel_rfl)) (Nat.le_refl _) (qZ rfl)
   | tup ks r=>exact rC (ry l rfl rfl rfl rfl he (fun e=>nomatch e) (by kernel_rfl)) (Nat.le_refl _) (qZ rfl)
   | _=>exact ff hc
 ·by_cases he:c=.tup ls t
  ·subst he
   rw[eq_68 _ hc]
   exact rB (sg (sH hd)) (ti _ hL) tj
  ·have l:=rQ hc hd
   cases c with
   | tup ks r=>exact eq_826 hc hL hd (fun k hk x hx=>ih x hx (eq_65 (aT hc).2 hk) (Nat.le_succ_of_le (eq_36 (n:=19) hd hk)) (eq_35 (aT hL).2 hx)) he
   | nam m=>exact rC (ry l rfl rfl rfl rfl he (fun e=>nomatch e) (by kernel_rfl)) (ti _ hL) tj
   | fn m=>exact rC (ry l rfl rfl rfl rfl he (fun e=>nomatch e) (by kernel_rfl)) (ti _ hL) tj
   | typ m=>exact rC (ry l rfl rfl rfl rfl he (fun e=>nomatch e) (by kernel_rfl)) (ti _ hL) tj
   | arr m i=>exact rC (ry l rfl rfl rfl rfl he (fun e=>nomatch e) (by kernel_rfl)) (ti _ hL) tj
   | _=>exact ff hc
 ·have l2:ls.length≤18:=Nat.le_of_ble_eq_true (aT (aT hL).1).2
  refine rS (eq_202 (rQ hc hd) (u1 l2 rfl)) ⟨by rw[length_map];exact u1 l2 rfl,fun w hw=>?_⟩ (eq_823 (S:=S) (c:=c) (ls:=ls) fun l hl=>ih l hl hc hd (eq_35 (aT hL).2 hl))
  obtain⟨x,_,rfl⟩:=List.mem_map.mp hw
  exact qZ rfl
 ·rcases mem_cons.mp hx with rfl | hx
  ·exact ih
  ·exact ihs x hx
end
end Mine
end
section
set_option genSizeOf false
set_option genCtorIdx false
set_option genInjectivity false
namespace Mine
open PySem
section
variable {n:Nat}{σ:ak}{s r q:Nat}{S:Sd}{K:KP}
theorem eq_827 (h:S.row=none):iL S true:=by
 intro n σ q s r F K hq hs k
 obtain⟨m,row⟩:=S
 dsimp only at h
 subst h
 refine rg rfl rfl (rk rfl ?_)
 refine rc (sd hs) ?_
 refine rc (eq_29 hs) ?_
 exact k
theorem eq_113 {x:Sd1}(h:bB σ s r S)(hx:S.row=some x):fF σ (.ref r) (.p (.str fx))=some (d6 x):=by
 obtain⟨m,row⟩:=S
 dsimp only at hx
 subst hx
 show (bC σ (.ref r)).bind (fun d=>cJ fx d.1 d.2)=_
 rw[eq_29 h]
 rfl
theorem eq_385 {x:Sd1}(h:S.row=some x)(hx:x.asked=false∨x.diag=false):iL S true:=by
 intro n σ q s r F K hq hs k
 obtain⟨m,row⟩:=S
 obtain⟨a,los,ups,d⟩:=x
 dsimp only at h
 subst h
 refine rg rfl rfl (rk rfl ?_)
 generalize hm:n+39=m'
 refine rc (sd hs) ?_
 refine rc (eq_29 hs) ?_
 conv=>whnf
 rw[sd hs]
 refine rc (eq_113 hs rfl) ?_
 conv=>whnf
 rcases hx with hx | hx
 ·dsimp only at hx
  subst hx
  exact k
 ·dsimp only at hx
  subst hx
  cases a<;>exact k
end
theorem eq_114 {c b:Kd}{A B:Nat}{ok:Bool}(h:GB S0 (false,c,b) A B ok)(hB:B<4000):eS c b ok:=by
 obtain⟨s,w,r,h1,h2,h3⟩:=h
 have:=r [] 1 0 (Run.nil (eq_827 rfl))
 rw[Nat.mul_one,Nat.mul_zero,Nat.add_zero] at this
 exact⟨s,w,this,by exact Nat.lt_of_le_of_lt h2 hB,h3⟩
theorem eq_828 {c L:Kd}(hc:Cs c=true)(hd:c.dep≤20)(hL:Kl L=true)(hw:wB L<4000):eS c L (bL c L):=eq_114 (eq_112 L.dep (Nat.le_refl _) hc hd hL) hw
theorem eq_115 {k:Kd}(e:cs k=[k])(h:Cs k=true):∀ c∈cs k,Cs c=true∧c.dep≤k.dep:=fun c hc=>by
 rw[e] at hc
 rw[mem_singleton.mp hc]
 exact⟨h,Nat.le_refl _⟩
theorem sI (k:Kd):Kl k=true→∀ c∈cs k,Cs c=true∧c.dep≤k.dep:=by
 refine Kd.rec (motive_1:=fun k=>Kl k=true→∀ c∈cs k,Cs c=true∧c.dep≤k.dep) (motive_2:=fun ks=>(Kls ks=true→∀ c∈css ks,Cs c=true∧c.dep≤Kd.deps ks)∧(Kls ks=true→∀ row∈prods ks,Css row=true∧Kd.deps row≤Kd.deps ks))
  ff (fun J h=>eq_115 rfl h) (fun J=>ff) (fun J h=>eq_115 rfl h) (fun J h=>eq_115 rfl h) (fun J J h=>eq_115 rfl h) (fun ls t ih h c hc=>?_) (fun ls ih h c hc=>⟨(ih.1 (aT h).2 c hc).1,Nat.le_succ_of_le (ih.1 (aT h).2 c hc).2⟩) ff ff (fun J J=>ff)
  ⟨(fun J J h=>nomatch h),fun J row hr=>by rw[mem_singleton.mp hr];exact⟨rfl,Nat.le_refl _⟩⟩ (fun k ks ih ihs=>⟨fun h c hc=>?_,fun h row hr=>?_⟩) k
 ·obtain⟨row,hr,rfl⟩:=List.mem_map.mp hc
  have q:=ih.2 (aT h).2 row hr
  refine⟨?_,Nat.succ_le_succ q.2⟩
  show ((Nat.ble row.length 2&&_)&&Css row)=true
  rw[eq_729 hr]
  exact aI (aT h).1 q.1
 ·rcases mem_append.mp hc with hc | hc
  ·exact⟨(ih (aT h).1 c hc).1,Nat.le_trans (ih (aT h).1 c hc).2 (Nat.le_max_left _ _)⟩
  ·exact⟨(ihs.1 (aT h).2 c hc).1,Nat.le_trans (ihs.1 (aT h).2 c hc).2 (Nat.le_max_right _ _)⟩
 ·obtain⟨c,hc,hr⟩:=List.mem_flatMap.mp hr
  obtain⟨row',hr',rfl⟩:=List.mem_map.mp hr
  have a:=ih (aT h).1 c hc
  have b:=ihs.2 (aT h).2 row' hr'
  exact⟨aI a.1 b.1,Nat.max_le.mpr ⟨Nat.le_trans a.2 (Nat.le_max_left _ _),Nat.le_trans b.2 (Nat.le_max_right _ _)⟩⟩
theorem eq_209 {ls:List Kd}{c:Kd}:clea c ls=ls.any fun l=>bL c l:=by
 induction ls with
 | nil=>rfl
 | cons l ls ih=>exact congrArg (bL c l||·) ih
theorem eq_116 {k:Kd}(e:cs k=[k])(h:Cs k=true):∀ c∈cs k,bL c k=true:=fun c hc=>by
 rw[e] at hc
 rw[mem_singleton.mp hc]
 exact eq_68 _ h
theorem eq_829 (k:Kd):Kl k=true→∀ c∈cs k,bL c k=true:=by
 refine Kd.rec (motive_1:=fun k=>Kl k=true→∀ c∈cs k,bL c k=true) (motive_2:=fun ks=>(Kls ks=true→∀ c∈css ks,clea c ks=true)∧(∀ t,Kls ks=true→∀ row∈prods ks,clet row ks t=true))
  ff (fun J h=>eq_116 rfl h) (fun J=>ff) (fun J h=>eq_116 rfl h) (fun J h=>eq_116 rfl h) (fun J J h=>eq_116 rfl h) (fun ls t ih h c hc=>?_) (fun ls ih h c hc=>ih.1 (aT h).2 c hc) ff ff (fun J J=>ff)
  ⟨(fun J J h=>nomatch h),fun t J row hr=>by rw[mem_singleton.mp hr];rfl⟩ (fun k ks ih ihs=>⟨fun h c hc=>?_,fun t h row hr=>?_⟩) k
 ·obtain⟨row,hr,rfl⟩:=List.mem_map.mp hc
  exact aI (ih.2 t (aT h).2 row hr) (eq_67 (aT (aT h).1).2)
 ·rcases mem_append.mp hc with hc | hc
  ·exact oL (ih (aT h).1 c hc)
  ·exact oR (ihs.1 (aT h).2 c hc)
 ·obtain⟨c,hc,hr⟩:=List.mem_flatMap.mp hr
  obtain⟨row',hr',rfl⟩:=List.mem_map.mp hr
  exact aI (ih (aT h).1 c hc) (ihs.2 t (aT h).2 row' hr')
noncomputable def le (a b:Kd):Bool:=(cs a).all fun c=>bL c b
theorem eq_210 {a:Kd}(h:Kl a=true):le a a=true:=List.all_eq_true.mpr (eq_829 a h)
structure Ok (k:Kd):Prop where
 kl:Kl k=true
 ck:lL k=true
 d:k.dep≤10
 w:wB k<3000
theorem eq_211 (k:Kd):Kl k=true→k.wid≤20:=
 Kd.rec (motive_1:=fun k=>Kl k=true→k.wid≤20) (motive_2:=fun ks=>Kls ks=true→Kd.wids ks≤20) ff (fun J J=>qZ rfl) (fun J=>ff) (fun J J=>qZ rfl) (fun J J=>qZ rfl) (fun J J J=>qZ rfl) (fun J J ih h=>Nat.max_le.mpr ⟨u1 (Nat.le_of_ble_eq_true (aT (aT h).1).1) rfl,ih (aT h).2⟩) (fun J ih h=>Nat.max_le.mpr ⟨u1 (Nat.le_of_ble_eq_true (aT (aT h).1).2) rfl,ih (aT h).2⟩)
  ff ff (fun J J=>ff) (fun J=>qZ rfl) (fun J J ih ihs h=>Nat.max_le.mpr ⟨ih (aT h).1,ihs (aT h).2⟩) k
section
variable {n:Nat}{σ:ak}{K:KP}
theorem sJ {a b:Kd}(hn:65≤n)(ha:Ok a)(hb:Ok b)(k:K (.p (.bool (le a b))) σ):ae an n 46 [KV,.p (kD a),.p (kD b)] σ K:=by
 by_cases e:a=b
 ·subst e
  rw[eq_210 ha.kl] at k
  exact sub_self hn (u1 ha.d rfl) k
 ·exact eq_34 hn e (u1 ha.d rfl) (u1 (eq_211 a ha.kl) rfl) ha.ck (fun c hc=>eq_828 (sI a ha.kl c hc).1 (u7 (sI a ha.kl c hc).2 ha.d rfl) hb.kl (eq_463 hb.w rfl)) k
end
end Mine
end
section
namespace Mine
open PySem
section
variable {n:Nat}{σ:ak}{s r q:Nat}{S:Sd}{K:KP}
theorem eq_386 {b:Kd}(hn:65≤n)(hb:b≠.bot)(hN:jP b=false)(k:K (.p (.bool true)) σ):ae an n 46 [KV,.p (kD .bot),.p (kD b)] σ K:=by
 refine eq_34 (ok:=fun J=>true) hn (Ne.symm hb) (qZ rfl) (qZ rfl) rfl (fun c hc=>?_) k
 have hc:=mem_singleton.mp hc
 subst hc
 exact eq_114 (sg (eq_778 hb hN)) (by exact qZ rfl)
theorem eq_830 {a:Kd}(hn:65≤n)(ha:Ok a)(k:K (.p (.bool true)) σ):ae an n 46 [KV,.p (kD a),.p (kD (.nam ai))] σ K:=by
 have hw:=eq_211 a ha.kl
 have hd:=ha.d
 have hne:∀ c,Cs c=true→c≠.nam ai:=fun c hc e=>by
  subst e
  exact rN _ (rn (m:=ai) hc) rfl
 refine eq_34 (ok:=fun J=>true) hn (fun e=>?_) (by exact u1 hd rfl) (by exact u1 hw rfl) ha.ck (fun c hc=>?_) ?_
 ·subst e
  have:=ha.kl
  exact rN _ (rn (m:=ai) this) rfl
 ·have h:=sI a ha.kl c hc
  exact eq_114 (sg (eq_369 (rQ h.1 (by exact re (Nat.add_le_add h.2 hd) (by simp +arith only))).toOrd (hne c h.1))) (by exact qZ rfl)
 ·rw[List.all_eq_true.mpr (fun J J=>rfl)];exact k
theorem eq_831 {u:Fin 4}{b:Nat}(hn:65≤n)(k:K (.p (.bool true)) σ):ae an n 46 [KV,.p (kD (.all u b)),.p (kD (.nam ai))] σ K:=by
 refine eq_34 (ok:=fun J=>true) hn (fun e=>nomatch e) (qZ rfl) (qZ rfl) rfl (fun c hc=>?_) k
 have hc:=mem_singleton.mp hc
 subst hc
 exact eq_114 (sg (eq_369 ⟨rfl,qZ rfl,qZ rfl⟩ (fun e=>nomatch e))) (by exact qZ rfl)
end
noncomputable def dn:Fin 4→Kd
 | 0=>.tup [.var] none
 | 1=>.tup [.var,.var] none
 | 2=>.arv
 | 3=>.tup [.var,.arv] none
noncomputable def c7:Fin 4→Bool
 | 1=>true
 | _=>false
noncomputable def SU (as:Bool)(u:Fin 4) (b:Nat):Sd:=⟨1,some ⟨as,[],[.nam b],c7 u⟩⟩
theorem eq_832 (n:Nat)(σ:ak)(K:KP)(u:Fin 4):ae an (n+25) 24 [.p (gI v7 u),.p (.str v7)] σ K=K (.p (.bool (c7 u))) σ:=by
 match u with
 | 0=>kernel_rfl
 | 1=>kernel_rfl
 | 2=>kernel_rfl
 | 3=>kernel_rfl
theorem eq_833 (n:Nat)(σ:ak)(K:KP)(u:Fin 4):ae an (n+25) 5 [.p (gI v7 u),.dct [v7] [.p (vD fx)]] σ K=K (.p (kD (dn u))) σ:=by
 match u with
 | 0=>kernel_rfl
 | 1=>kernel_rfl
 | 2=>kernel_rfl
 | 3=>kernel_rfl
theorem eq_834 (n:Nat)(σ:ak)(K:KP)(as:Bool) (b:Nat)(d:Bool):ae an (n+25) 1000 [.p (.bool as),.p (.int 1),.p (.tup []),.p (.tup [bJ b]),.p (.bool d)] σ K=K (d6 ⟨as,[],[.nam b],d⟩) σ:=by kernel_rfl
theorem eq_835 {m:Nat}(hm:25≤m){σ:ak}{K:KP}{u:Fin 4}(k:K (.p (.bool (c7 u))) σ):ae an m 24 [.p (gI v7 u),.p (.str v7)] σ K:=by
 obtain⟨n,rfl⟩:∃ n,m=n+25:=⟨m - 25,by exact u3 hm rfl⟩
 rw[eq_832];exact k
theorem eq_836 {m:Nat}(hm:25≤m){σ:ak}{K:KP}{u:Fin 4}(k:K (.p (kD (dn u))) σ):ae an m 5 [.p (gI v7 u),.dct [v7] [.p (vD fx)]] σ K:=by
 obtain⟨n,rfl⟩:∃ n,m=n+25:=⟨m - 25,by exact u3 hm rfl⟩
 rw[eq_833];exact k
theorem eq_837 {m:Nat}(hm:25≤m){σ:ak}{K:KP}{as d:Bool}{b:Nat}(k:K (d6 ⟨as,[],[.nam b],d⟩) σ):ae an m 1000 [.p (.bool as),.p (.int 1),.p (.tup []),.p (.tup [bJ b]),.p (.bool d)] σ K:=by
 obtain⟨n,rfl⟩:∃ n,m=n+25:=⟨m - 25,by exact u3 hm rfl⟩
 rw[eq_834];exact k
theorem eq_838 {σ:ak}{s r:Nat}{S:Sd}(h:bB σ s r S):mi an.tab.attr σ bE (.p (.int 1)) (.ref s)=some (σ.set s (gJ r ⟨1,none⟩)):=by
 rw[td h.1];rfl
theorem eq_839 {σ:ak}{r:Nat}{v:PV}(h:σ[r]?=some (.dict [] [])):jc σ (.ref r) (.p (.str fx)) v=some (σ.set r (.dict [fx] [v])):=by
 simp only[jc,h];rfl
theorem eq_840:dg (dg v7 j0) (fY 1)=fx:=by kernel_rfl
theorem eq_387 {n:Nat}{σ:ak}{s r:Nat}{K:KP}{u:Fin 4}{b:Nat}{as:Bool}(hb:b≠ai)(h:bB σ s r S0)(k:K (.p (.tup [.str fx,kD (dn u)])) ((σ.set r (gu (SU as u b))).set s (gJ r (SU as u b)))):ae an (n+30) 16 [.ref s,.p (kD (.all u b)),.p (.bool as)] σ K:=by
 have hA:D.eqv (bJ b) (.tup [.str aa,.str ai,.tup []])=false:=eq_111 hb
 have hne:s≠r:=sC h.1 h.2
 have h1:bB (σ.set s (gJ r ⟨1,none⟩)) s r ⟨1,none⟩:=⟨rV h.1,by rw[rL hne];exact h.2⟩
 have hm1:hY an.tab.attr (σ.set s (gJ r ⟨1,none⟩)) bE (.ref s)=some (.p (.int 1)):=eq_193 h1
 refine rg rfl rfl (rk rfl ?_)
 generalize hm:n+29=m
 refine rc (eq_193 h) ?_
 conv=>whnf
 rw[show ((S0.many:Int)+1)=1 from rfl,eq_838 h]
 refine rF (show nS (aJ v7) (aJ j0)=true from by kernel_rfl) ?_
 refine rc hm1 ?_
 conv=>whnf
 refine mT (c:=Nat.ble ((bx (dg v7 j0)).length+(bx (fY 1)).length) 100000) (by kernel_rfl) ?_
 rw[eq_840]
 conv=>whnf
 rw[show D.eqv (bJ b) (D.tup [D.str aa,D.str ai,D.tup []])=false from hA]
 refine rc hm1 ?_
 conv=>whnf
 refine eq_835 (by exact re (Nat.le_of_eq hm) (by simp +arith only)) ?_
 conv=>whnf
 refine eq_837 (by exact re (Nat.le_of_eq hm) (by simp +arith only)) ?_
 refine rc (sd h1) ?_
 refine rc (eq_839 h1.2) ?_
 conv=>whnf
 refine eq_836 (by exact re (Nat.le_of_eq hm) (by simp +arith only)) ?_
 have e:(σ.set r (gu (SU as u b))).set s (gJ r (SU as u b))=(σ.set s (gJ r ⟨1,none⟩)).set r (.dict [fx] [d6 ⟨as,[],[.nam b],c7 u⟩]):=by
  rw[List.set_comm _ _ hne.symm];rfl
 rw[e] at k
 exact k
section
variable {u:Fin 4}{b:Nat}
theorem eq_841 {n:Nat}{σ:ak}{s r q:Nat}{K:KP}{L:Kd}(hb:b≠ai)(h:bB σ s r S0)(k:K (.p (aZ [[(false,dn u,L)]])) ((σ.set r (gu (SU false u b))).set s (gJ r (SU false u b)))):ae an (n+31) 36 [.ref q,.p (kD (.all u b)),.p (kD L),.ref s] σ K:=by
 refine rg rfl rfl (rk rfl ?_)
 generalize hm:n+30=m
 conv=>whnf
 rw[rH h]
 conv=>whnf
 subst hm
 exact eq_387 hb h k
theorem eq_842 {L:Kd}(hb:b≠ai)(hN:jP L=false)(hv:kk L=false)(he:Kd.all u b≠L)(hA:L≠.nam ai):aF S0 (false,.all u b,L) [[(false,dn u,L)]] (SU false u b):=by
 intro n σ q s r F K hq hs k
 have k:=k []
 rw[append_nil] at k
 have hne:(Kd.all u b).ne=true:=rfl
 refine eq_61 (n:=n+39) (by exact qZ rfl) hq hs he (sG rfl hN) (qZ rfl) (qZ rfl) hne (eq_32 hA) (fun e=>nomatch e) (fun e=>?_) (eq_14 rfl) (eq_14 hv) ?_
 ·subst e;cases hv
 ·exact eq_841 (n:=n+8) hb hs k
end
section
variable {u:Fin 4}{b:Nat}
theorem eq_117 {k:Kd}:asked (SU false u b) k=false:=by
 cases k<;>rfl
theorem eq_212 {as:Bool}:(SU as u b).row≠none:=fun e=>nomatch e
theorem eq_388 {L:Kd}{ws:List (List G)}(hN:jP L=false)(he:Kd.var≠L)(hA:L≠.nam ai)(h:∀ {n:Nat}{σ:ak}{q s r:Nat}{F:Int}{K:KP},σ[q]?=some (b0 F)→bB σ s r (SU false u b)→K (.p (aZ ws)) σ→ae an (n+39) 36 [.ref q,.p (kD .var),.p (kD L),.ref s] σ K):aF (SU false u b) (false,.var,L) ws (SU false u b):=tf fun {n σ q s r F K} hq hs k=>
 eq_61 (n:=n+39) (by exact qZ rfl) hq hs he (sG rfl hN) (qZ rfl) (qZ rfl) rfl (eq_32 hA) (fun J=>eq_212) (fun J=>eq_212) eq_117 eq_117 (h hq hs k)
theorem eq_843 {ls:List Kd}(hl:ls.length≤300):aF (SU false u b) (false,.var,.uni ls) ((ls.map fun l=>[(false,.var,l)])++[[(false,.nam b,.uni ls)]]) (SU false u b):=
 eq_388 rfl (fun e=>nomatch e) (fun e=>nomatch e) fun hq hs k=>eq_757 (by exact qZ rfl) hs rfl rfl hl k
theorem eq_844 {L:Kd}(hb:b≠ai)(hN:jP L=false)(he:Kd.var≠L)(hA:L≠.nam ai)(hu':fE L=false)(ha':lM L=false)(hv':kk L=false):aF (SU false u b) (false,.var,L) [[(false,.nam b,L)]] (SU false u b):=
 eq_388 hN he hA fun hq hs k=>eq_758 (by exact qZ rfl) hs rfl rfl hb hu' ha' hv' k
theorem eq_845 {o:Nat}:aF (SU false u b) (false,.nam o,.var) [] (SU false u b):=tf fun {n σ q s r F K} hq hs k=>
 eq_61 (n:=n+39) (by exact qZ rfl) hq hs (fun e=>nomatch e) (sG rfl rfl) (qZ rfl) (qZ rfl) rfl (eq_32 (fun e=>nomatch e)) (fun e=>nomatch e) (fun J=>eq_212) eq_117 eq_117 (eq_759 (n:=n+38) (by exact qZ rfl) hs rfl rfl rfl rfl rfl k)
theorem eq_846 {S:Sd}{gs u:List G}{x' y':Nat}{us:List (List G)}(h':RunAll S gs [u] x' y'):∀ {x y},RunAll S gs us x y→RunAll S gs (us++[u]) (x+x') (y+y'):=by
 induction us with
 | nil=>exact fun h=>by cases h;rw[Nat.zero_add,Nat.zero_add];exact h'
 | cons v us ih=>
  intro x y h
  cases h with
  | cons h1 h2=>
   rw[Nat.add_assoc,Nat.add_assoc]
   exact .cons h1 (ih h2)
theorem eq_847 {a b:Nat}:a+b≠0↔a≠0∨b≠0:=by lia
theorem eq_848 {S:Sd}{us:List (List G)}{u:List G}{A B A' B':Nat}{ok ok':Bool}(h:fX S us A B ok)(h':fg S u A' B' ok'):fX S (us++[u]) (A+A') (B+B') (ok||ok'):=by
 obtain⟨s',w',r',h1',h2',h3'⟩:=sf h'
 obtain⟨s,w,r,h1,h2,h3⟩:=h
 refine⟨s+s',w+w',fun gs a c h=>?_,Nat.add_le_add h1 h1',Nat.add_le_add h2 h2',?_⟩
 ·rw[Nat.add_mul,Nat.add_mul,Nat.add_add_add_comm]
  exact eq_846 (r' gs a c h) (r gs a c h)
 ·rw[Bool.or_eq_true,← h3,← h3']
  exact eq_847
theorem eq_213 {S:Sd}{c:Kd}{p q:Nat}{ok:Kd→Bool}{ls:List Kd}(h:∀ l∈ls,GB S (false,c,l) (sB l*p) (wB l*q) (ok l)):fX S (ls.map fun x=>[(false,c,x)]) (sBs ls*p) (wBs ls*q) (ls.any ok):=by
 induction ls with
 | nil=>exact(Nat.zero_mul p).symm▸(Nat.zero_mul q).symm▸eq_109
 | cons l ls ih=>
  have w:=eq_207 (h l mem_cons_self) (ih fun x hx=>h x (mem_cons_of_mem _ hx))
  rw[← Nat.add_mul,← Nat.add_mul] at w
  exact w
theorem eq_389 {c:Kd}{ls:List Kd}(h:ls.length≤20):ji (ls.map fun x=>[(false,c,x)]):=⟨by rw[length_map];exact h,fun w hw=>by
 obtain⟨x,_,rfl⟩:=List.mem_map.mp hw
 exact qZ rfl⟩
theorem eq_69 {P:Kd→Prop}(hu:∀ ls,(∀ l∈ls,P l)→P (.uni ls))(h:∀ k,fE k=false→P k)(k:Kd):P k:=
 Kd.rec (motive_1:=P) (motive_2:=fun ls=>∀ l∈ls,P l) (h _ rfl) (fun J=>h _ rfl) (fun J=>h _ rfl) (fun J=>h _ rfl) (fun J=>h _ rfl) (fun J J=>h _ rfl) (fun J J J=>h _ rfl) hu (h _ rfl) (h _ rfl) (fun J J=>h _ rfl) (fun J h=>nomatch h) (fun J J ih ihs x hx=>(mem_cons.mp hx).elim (fun e=>e▸ih) (ihs x)) k
theorem eq_390 {L:Kd}(h:Kl L=true):jP L=false∧lM L=false∧kk L=false:=by cases L<;>first | exact⟨rfl,rfl,rfl⟩ | exact ff h
theorem eq_214 {ls:List Kd}(h:Kl (.uni ls)=true):ls.length≤18:=Nat.le_of_ble_eq_true (aT (aT h).1).2
theorem r9 {o:Nat}(h:o∈ao):Kl (.nam o)=true:=List.elem_eq_true_of_mem h
theorem eq_849 {a b:Nat}(ha:1≤a)(hb:1≤b):a+1≤a*(2*b):=Nat.le_trans (Nat.mul_two a▸Nat.add_le_add_left ha a) (Nat.mul_le_mul_left a (Nat.mul_le_mul_left 2 hb))
theorem eq_850 {W D:Nat}:W*(2*D)+(W+1)+1≤(W+1)*(2*(D+1)):=by
 rw[Nat.succ_mul,Nat.mul_succ 2,Nat.mul_add W]
 lia
theorem eq_391 (hb:b∈ao) (n:Nat){L:Kd}(_:L.dep≤n)(hL:Kl L=true):GB (SU false u b) (false,.var,L) (sB L*L.dep) (wB L*(2*L.dep)) (bL (.nam b) L):=by
 have hg:=fun {L}(hL:Kl L=true)=>eq_112 (S:=SU false u b) (c:=.nam b) (Kd.dep L) (Nat.le_refl _) (r9 hb) (qZ rfl) hL
 refine eq_69 (P:=fun L=>Kl L=true→GB (SU false u b) (false,.var,L) (sB L*L.dep) (wB L*(2*L.dep)) (bL (.nam b) L)) (fun ls ih hL=>?_) (fun L hu hL=>?_) L hL
 ·have l2:=eq_214 hL
  have w:=rS (eq_843 (u:=u) (b:=b) (ls:=ls) (u1 l2 rfl)) ⟨by rw[length_append,length_map];exact u9 l2 rfl,fun w hw=>?_⟩ (eq_848 (eq_213 (S:=SU false u b) (c:=.var) (p:=Kd.deps ls) (q:=2*Kd.deps ls) (ok:=bL (.nam b)) (ls:=ls) fun l hl=>rB (ih l hl (eq_35 (aT hL).2 hl)) (Nat.mul_le_mul_left _ (su hl)) (Nat.mul_le_mul_left _ (Nat.mul_le_mul_left 2 (su hl)))) (hg hL))
  ·rw[show ((ls.any (bL (.nam b)))||bL (.nam b) (.uni ls))=bL (.nam b) (.uni ls) from(congrArg (·||_) eq_209.symm).trans (Bool.or_self _)] at w
   exact rB w (Nat.le_refl _) eq_850
  ·rcases mem_append.mp hw with hw | hw
   ·obtain⟨x,_,rfl⟩:=List.mem_map.mp hw;exact qZ rfl
   ·rw[mem_singleton.mp hw];exact qZ rfl
 ·have o:=eq_390 hL
  exact rB (rS (eq_844 (u:=u) (rN b hb) o.1 (fun e=>by subst e;cases hL) (fun e=>by subst e;exact rN _ (rn (m:=ai) hL) rfl) hu o.2.1 o.2.2) (small_one (qZ rfl)) (sf (hg hL))) (Nat.le_mul_of_pos_right _ eq_27) (eq_849 tj eq_27)
theorem eq_851 (hb:b∈ao){o:Nat}(ho:o∈ao):GB (SU false u b) (true,.var,.nam o) 1 30 false:=by
 have w:=rS (eq_201 (S:=SU false u b) (a:=.var) (b:=.nam o) (qZ rfl) (fun e=>nomatch e) rfl rfl) (small_one (qZ rfl)) (sf (sD (eq_391 (u:=u) hb 1 (L:=.nam o) (qZ rfl) (r9 ho)) (th eq_845)))
 rw[Bool.and_false] at w
 exact rB w (qZ rfl) (qZ rfl)
theorem eq_852 {W:Nat}(h:1≤W):1≤W*8:=Nat.le_trans h (Nat.le_mul_of_pos_right _ (qZ rfl))
theorem eq_392 (hb:b∈ao) (n:Nat){L:Kd}(_:L.dep≤n)(hL:Kl L=true):GB (SU false u b) (false,.arv,L) (sB L) (wB L*8) false:=by
 refine eq_69 (P:=fun L=>Kl L=true→GB (SU false u b) (false,.arv,L) (sB L) (wB L*8) false) (fun ls ih hL=>?_) (fun L hu hL=>?_) L hL
 ·have l2:=eq_214 hL
  have w:=rS (eq_202 eq_33 (u1 l2 rfl)) (eq_389 (u1 l2 rfl)) (eq_213 (S:=SU false u b) (c:=.arv) (p:=1) (q:=8) (ok:=fun J=>false) (ls:=ls) fun l hl=>rB (ih l hl (eq_35 (aT hL).2 hl)) (Nat.le_of_eq (Nat.mul_one _).symm) (Nat.le_refl _))
  rw[show (ls.any fun J=>false)=false from List.any_eq_false.mpr fun J J h=>nomatch h] at w
  exact rB w (Nat.le_of_eq (Nat.mul_one _)) (by show _≤(wBs ls+1)*8;rw[Nat.succ_mul];exact Nat.add_le_add_left (qZ rfl) _)
 ·have hp:=ti L hL
  have h8:=eq_852 (tj (k:=L))
  cases L with
  | nam o=>exact rC (eq_782 (rn hL)) hp h8
  | arr o j=>
   have w:=rS (S:=SU false u b) (eq_785 (o:=o) (j:=j)) (small_one (qZ rfl)) (sf (sD (eq_851 hb (rn hL)) eq_380))
   rw[Bool.false_and] at w
   exact rB w (Nat.le_refl _) (qZ rfl)
  | fn o=>exact rC (ry eq_33 rfl rfl rfl rfl (fun e=>nomatch e) (fun e=>nomatch e) (by kernel_rfl)) hp h8
  | typ o=>exact rC (ry eq_33 rfl rfl rfl rfl (fun e=>nomatch e) (fun e=>nomatch e) (by kernel_rfl)) hp h8
  | tup ls t=>exact rC (ry eq_33 rfl rfl rfl rfl (fun e=>nomatch e) (fun e=>nomatch e) (by kernel_rfl)) hp h8
  | uni ls=>cases hu
  | _=>exact ff hL
def fA (S:Sd)(p:Kd)(ok:Kd→Bool):Prop:=∀ L,L.dep≤4→Kl L=true→GB S (false,p,L) (sB L*4) (wB L*8) (ok L)
theorem eq_118 (hb:b∈ao):fA (SU false u b) .var (fun L=>bL (.nam b) L):=fun L hd hL=>
 rB (eq_391 hb L.dep (Nat.le_refl _) hL) (Nat.mul_le_mul_left _ hd) (Nat.mul_le_mul_left _ (Nat.mul_le_mul_left 2 hd))
theorem eq_853 (hb:b∈ao):fA (SU false u b) .arv (fun J=>false):=fun L hd hL=>
 rB (eq_392 hb L.dep (Nat.le_refl _) hL) (Nat.le_mul_of_pos_right _ (qZ rfl)) (Nat.le_refl _)
noncomputable def qh (ps:List (Kd×(Kd→Bool))):Option Nat→Bool
 | none=>ps.isEmpty
 | some o=>ps.all fun p=>p.2 (.nam o)
noncomputable def dB (ps:List (Kd×(Kd→Bool))):List Kd→Option Nat→Bool
 | [],t=>qh ps t
 | l::ls,t=>match ps with
  | []=>false
  | p::ps=>p.2 l&&dB ps ls t
termination_by structural ls=>ls
end
mutual
noncomputable def mZ (ps:List (Kd×(Kd→Bool))):Kd→Bool
 | .uni ls=>bOks ps ls
 | .tup ls t=>dB ps ls t
 | _=>false
noncomputable def bOks (ps:List (Kd×(Kd→Bool))):List Kd→Bool
 | []=>false
 | l::ls=>mZ ps l||bOks ps ls
end
theorem eq_215 {ps:List (Kd×(Kd→Bool))}{ls:List Kd}:bOks ps ls=ls.any (mZ ps):=by
 induction ls with
 | nil=>rfl
 | cons l ls ih=>exact congrArg (mZ ps l||·) ih
theorem eq_854 {ps:List (Kd×(Kd→Bool))}:∀ {ls:List Kd}{t:Option Nat},ps.length<ls.length→dB ps ls t=false:=by
 induction ps with
 | nil=>exact fun {ls t} h=>by cases ls with
  | nil=>exact absurd h (Nat.lt_irrefl _)
  | cons l ls=>cases t<;>rfl
 | cons p ps ih=>exact fun {ls t} h=>by cases ls with
  | nil=>exact absurd h (Nat.not_lt_zero _)
  | cons l ls=>exact(congrArg (p.2 l&&·) (ih (Nat.lt_of_succ_lt_succ h))).trans (Bool.and_false _)
theorem eq_855 {ps:List (Kd×(Kd→Bool))}:∀ {ls:List Kd},ls.length<ps.length→dB ps ls none=false:=by
 induction ps with
 | nil=>exact fun h=>absurd h (Nat.not_lt_zero _)
 | cons p ps ih=>exact fun {ls} h=>by cases ls with
  | nil=>rfl
  | cons l ls=>exact(congrArg (p.2 l&&·) (ih (Nat.lt_of_succ_lt_succ h))).trans (Bool.and_false _)
section
variable {S:Sd}
theorem eq_856 {t:Option Nat}(ht:∀ o,t=some o→o∈ao)(ps:List (Kd×(Kd→Bool))):∀ {ls:List Kd},(∀ p∈ps,fA S p.1 p.2)→Kls ls=true→(∀ l∈ls,l.dep≤4)→(t=none→ps.length=ls.length)→ls.length≤ps.length→fg S (zg (ps.map (·.1)) ls t) (4 ^ ps.length*sBp ls) (2*4 ^ ps.length*wBp ls+14*4 ^ ps.length) (dB ps ls t):=by
 induction ps with
 | nil=>
  intro ls hp hl hd hn h1
  cases ls with
  | nil=>cases t<;>exact rB eq_108 (qZ rfl) (Nat.zero_le _)
  | cons l ls=>exact absurd h1 (Nat.not_succ_le_zero _)
 | cons p ps ih=>
  intro ls hp hl hd hn h1
  have hp1:=hp p mem_cons_self
  have hp2:=fun q hq=>hp q (mem_cons_of_mem _ hq)
  have hX:4 ^ ps.length≤4 ^ (ps.length+1):=Nat.pow_le_pow_right (qZ rfl) (Nat.le_succ _)
  show fg S _ (4 ^ (ps.length+1)*_) (2*4 ^ (ps.length+1)*_+14*4 ^ (ps.length+1)) _
  cases ls with
  | nil=>
   cases t with
   | none=>exact absurd (hn rfl) (Nat.succ_ne_zero _)
   | some o=>
    rw[show dB (p::ps) [] (some o)=(p.2 (.nam o)&&dB ps [] (some o)) from rfl]
    refine rB (sD (u:=[(false,p.1,.nam o)]) (hp1 (.nam o) (qZ rfl) (r9 (ht o rfl))) (ih (ls:=[]) hp2 rfl (fun J h=>nomatch h) (fun e=>nomatch e) (Nat.zero_le _))) ?_ ?_
    ·show 4 ^ ps.length*1*(1*4)≤4 ^ ps.length*4*1
     rw[Nat.mul_one,Nat.mul_one]
     exact Nat.le_refl _
    ·show 2*4 ^ ps.length*0+14*4 ^ ps.length+4 ^ ps.length*1*40≤2*(4 ^ ps.length*4)*0+14*(4 ^ ps.length*4)
     generalize 4 ^ ps.length=X
     exact re (Nat.le_refl 0) (by simp +arith only)
  | cons l ls=>
   rw[show dB (p::ps) (l::ls) t=(p.2 l&&dB ps ls t) from rfl]
   refine rB (sD (u:=[(false,p.1,l)]) (hp1 l (hd l mem_cons_self) (aT hl).1) (ih hp2 (aT hl).2 (fun x hx=>hd x (mem_cons_of_mem _ hx)) (fun e=>Nat.succ.inj (hn e)) (Nat.le_of_succ_le_succ h1))) ?_ ?_
   ·show 4 ^ ps.length*sBp ls*(sB l*4)≤4 ^ ps.length*4*(sBp ls*sB l)
    rw[Nat.mul_comm (sB l),Nat.mul_mul_mul_comm]
    exact Nat.le_refl _
   ·show 2*4 ^ ps.length*wBp ls+14*4 ^ ps.length+4 ^ ps.length*sBp ls*(wB l*8)≤2*(4 ^ ps.length*4)*(wBp ls+sBp ls*wB l)+14*(4 ^ ps.length*4)
    rw[Nat.mul_add,Nat.add_right_comm,Nat.mul_comm (wB l),Nat.mul_mul_mul_comm,Nat.mul_left_comm 2]
    refine Nat.add_le_add (Nat.add_le_add ?_ (Nat.le_refl _)) (Nat.mul_le_mul_left 14 hX)
    rw[← Nat.mul_left_comm 2]
    exact Nat.mul_le_mul_right _ (Nat.mul_le_mul_left 2 hX)
theorem eq_857 {n:Nat}(h:n≤2):4 ^ n≤16:=Nat.pow_le_pow_right (qZ rfl) h
theorem eq_216 {ps:List (Kd×(Kd→Bool))}(hp:∀ p∈ps,fA S p.1 p.2)(h2:ps.length≤2)(left:Left (.tup (ps.map (·.1)) none))(hk:Kl (.tup (ps.map (·.1)) none)=false) (n:Nat){L:Kd}(_:L.dep≤n)(h4:L.dep≤4)(hL:Kl L=true):GB S (false,.tup (ps.map (·.1)) none,L) (16*sB L) (64*wB L) (mZ ps L):=by
 refine eq_69 (P:=fun L=>L.dep≤4→Kl L=true→GB S (false,.tup (ps.map (·.1)) none,L) (16*sB L) (64*wB L) (mZ ps L)) (fun ls ih h4 hL=>?_) (fun L hu h4 hL=>?_) L h4 hL
 ·have l2:=eq_214 hL
  have w:=rS (eq_202 left (u1 l2 rfl)) (eq_389 (u1 l2 rfl)) (eq_213 (S:=S) (c:=.tup (ps.map (·.1)) none) (p:=16) (q:=64) (ok:=mZ ps) (ls:=ls) fun l hl=>Nat.mul_comm 16 _▸Nat.mul_comm 64 _▸ih l hl (Nat.le_trans (su hl) (Nat.le_of_succ_le h4)) (eq_35 (aT hL).2 hl))
  rw[← eq_215] at w
  refine rB w (Nat.le_of_eq (Nat.mul_comm _ _)) ?_
  show wBs ls*64+1≤64*(wBs ls+1)
  rw[Nat.mul_comm,Nat.mul_succ]
  exact Nat.add_le_add_left (qZ rfl) _
 ·have he:Kd.tup (ps.map (·.1)) none≠L:=fun e=>by rw[e,hL] at hk;cases hk
  have hA:1≤16*sB L:=Nat.mul_pos (qZ rfl) (ti L hL)
  have hB:1≤64*wB L:=Nat.mul_pos (qZ rfl) tj
  cases L with
  | tup ls t=>
   have l2:ls.length≤2:=Nat.le_of_ble_eq_true (aT (aT hL).1).1
   have st:=eq_107 (S:=S) (ls:=ls) (t:=t) left (u1 l2 rfl) he
   have hlen:(ps.map (·.1)).length=ps.length:=length_map ..
   show GB S _ (16*sBp ls) (64*(wBp ls+4)) (dB ps ls t)
   by_cases q1:ps.length<ls.length
   ·rw[sV (oL (by rw[hlen];exact decide_eq_true q1))] at st
    rw[eq_854 q1]
    exact rC st hA hB
   ·have q1':decide ((ps.map (·.1)).length<ls.length)=false:=by rw[hlen];exact decide_eq_false q1
    have w:=fun hn=>eq_856 (S:=S) (fun o e=>by subst e;exact rn (aT (aT hL).1).2) ps (ls:=ls) (t:=t) hp (aT hL).2 (fun l hl=>Nat.le_succ_of_le (eq_36 (n:=3) h4 hl)) hn (Nat.le_of_not_lt q1)
    have p4:=eq_857 h2
    have fin:fg S (zg (ps.map (·.1)) ls t) (4 ^ ps.length*sBp ls) (2*4 ^ ps.length*wBp ls+14*4 ^ ps.length) (dB ps ls t)→tw (ps.map (·.1)) none ls t=[zg (ps.map (·.1)) ls t]→GB S (false,.tup (ps.map (·.1)) none,.tup ls t) (16*sBp ls) (64*(wBp ls+4)) (dB ps ls t):=fun w e=>by
     rw[e] at st
     refine rB (rS st (small_one (by rw[eq_30,hlen];exact u1 h2 rfl)) (sf w)) (Nat.mul_le_mul_right _ p4) ?_
     rw[Nat.mul_add,Nat.add_assoc]
     exact Nat.add_le_add (Nat.mul_le_mul_right _ (Nat.le_trans (Nat.mul_le_mul_left 2 p4) (qZ rfl))) (u9 (Nat.mul_le_mul_left 14 p4) rfl)
    cases t with
    | none=>
     by_cases q2:ls.length<ps.length
     ·rw[sV (r:=none) (t:=none) (oR (by rw[hlen];exact decide_eq_true q2))] at st
      rw[eq_855 q2]
      exact rC st hA hB
     ·exact fin (w fun J=>Nat.le_antisymm (Nat.le_of_not_lt q2) (Nat.le_of_not_lt q1)) (eq_13 (t:=none) (by rw[q1',hlen];exact decide_eq_false q2))
    | some o=>exact fin (w fun e=>nomatch e) (eq_13 (t:=some o) (by rw[q1'];rfl))
  | nam o=>exact rC (ry left rfl rfl rfl rfl he (r7 (rN o (rn hL))) (by kernel_rfl)) hA hB
  | arr o j=>exact rC (ry left rfl rfl rfl rfl he (fun e=>nomatch e) (by kernel_rfl)) hA hB
  | fn o=>exact rC (ry left rfl rfl rfl rfl he (fun e=>nomatch e) (by kernel_rfl)) hA hB
  | typ o=>exact rC (ry left rfl rfl rfl rfl he (fun e=>nomatch e) (by kernel_rfl)) hA hB
  | uni ls=>cases hu
  | _=>exact ff hL
end
noncomputable def pv (b:Nat):Kd×(Kd→Bool):=(.var,bL (.nam b))
noncomputable def pa:Kd×(Kd→Bool):=(.arv,fun J=>false)
noncomputable def mO (u:Fin 4) (b:Nat)(L:Kd):Bool:=match u with
 | 0=>bL (.tup [.nam b] none) L
 | 1=>bL (.tup [.nam b,.nam b] none) L
 | _=>false
theorem eq_858 {f g:Kd→Bool}{ls:List Kd}(h:∀ l∈ls,f l=g l):ls.any f=ls.any g:=by
 induction ls with
 | nil=>rfl
 | cons l ls ih=>rw[List.any_cons,List.any_cons,h l mem_cons_self,ih fun x hx=>h x (mem_cons_of_mem _ hx)]
def TC (ps:List (Kd×(Kd→Bool)))(ks:List Kd):Prop:=∀ ls t,dB ps ls t=clet ks ls t
theorem eq_393:TC [] []:=fun ls t=>by cases ls<;>cases t<;>rfl
theorem eq_217 {b:Nat}{ps:List (Kd×(Kd→Bool))}{ks:List Kd}(h:TC ps ks):TC (pv b::ps) (.nam b::ks):=fun ls t=>by
 cases ls with
 | nil=>cases t with
  | none=>rfl
  | some o=>exact congrArg (bL (.nam b) (.nam o)&&·) (h [] (some o))
 | cons l ls=>exact congrArg (bL (.nam b) l&&·) (h ls t)
theorem eq_394 {ps:List (Kd×(Kd→Bool))}{ks:List Kd}(h:TC ps ks)(L:Kd):mZ ps L=bL (.tup ks none) L:=
 eq_69 (P:=fun L=>mZ ps L=bL (.tup ks none) L) (fun ls ih=>eq_215.trans ((eq_858 ih).trans eq_209.symm)) (fun L hu=>by
  cases L with
  | uni ls=>cases hu
  | tup ls t=>exact(h ls t).trans (Bool.and_true _).symm
  | _=>rfl) L
def TF (ps:List (Kd×(Kd→Bool))):Prop:=∀ ls t,dB ps ls t=false
theorem eq_859:TF [pa]:=fun ls t=>by cases ls<;>cases t<;>rfl
theorem eq_860 {p:Kd×(Kd→Bool)}{ps:List (Kd×(Kd→Bool))}(h:TF ps):TF (p::ps):=fun ls t=>by
 cases ls with
 | nil=>cases t with
  | none=>rfl
  | some o=>exact(congrArg (p.2 (.nam o)&&·) (h [] (some o))).trans (Bool.and_false _)
 | cons l ls=>exact(congrArg (p.2 l&&·) (h ls t)).trans (Bool.and_false _)
theorem eq_861 {ps:List (Kd×(Kd→Bool))}(h:TF ps)(L:Kd):mZ ps L=false:=
 eq_69 (P:=fun L=>mZ ps L=false) (fun ls ih=>eq_215.trans (List.any_eq_false.mpr fun l hl q=>ff ((ih l hl).symm.trans q))) (fun L hu=>by
  cases L with
  | uni ls=>cases hu
  | tup ls t=>exact h ls t
  | _=>rfl) L
theorem eq_218 {S:Sd}{g:G}{A B:Nat}{ok ok':Bool}(e:ok=ok')(h:GB S g A B ok):GB S g A B ok':=e▸h
theorem eq_862 {u:Fin 4}{b:Nat}(hb:b∈ao){L:Kd}(hL:Kl L=true)(hd:L.dep≤4):GB (SU false u b) (false,dn u,L) (16*sB L) (64*wB L) (mO u b L):=by
 have two:∀ {S:Sd}{p q:Kd×(Kd→Bool)},fA S p.1 p.2→fA S q.1 q.2→∀ x∈[p,q],fA S x.1 x.2:=fun hp hq x hx=>(mem_cons.mp hx).elim (fun e=>e▸hp) fun hx=>mem_singleton.mp hx▸hq
 cases u using tb with
 | h0=>exact eq_218 (eq_394 (eq_217 eq_393) L) <| eq_216 (S:=SU false 0 b) (ps:=[pv b]) (fun p hp=>mem_singleton.mp hp▸eq_118 hb) (qZ rfl) ⟨⟨rfl,qZ rfl,qZ rfl⟩,rfl,rfl,rfl,rfl⟩ rfl L.dep (Nat.le_refl _) hd hL
 | h1=>exact eq_218 (eq_394 (eq_217 (eq_217 eq_393)) L) <| eq_216 (S:=SU false 1 b) (ps:=[pv b,pv b]) (two (eq_118 hb) (eq_118 hb)) (qZ rfl) ⟨⟨rfl,qZ rfl,qZ rfl⟩,rfl,rfl,rfl,rfl⟩ rfl L.dep (Nat.le_refl _) hd hL
 | h2=>exact rB (eq_392 hb L.dep (Nat.le_refl _) hL) (Nat.le_mul_of_pos_left _ (qZ rfl)) (Nat.mul_comm _ 8▸Nat.mul_le_mul_right _ (qZ rfl))
 | h3=>exact eq_218 (eq_861 (eq_860 eq_859) L) <| eq_216 (S:=SU false 3 b) (ps:=[pv b,pa]) (two (eq_118 hb) (eq_853 hb)) (qZ rfl) ⟨⟨rfl,qZ rfl,qZ rfl⟩,rfl,rfl,rfl,rfl⟩ rfl L.dep (Nat.le_refl _) hd hL
theorem eq_219 {u:Fin 4}{b:Nat}{L:Kd}(hL:Kl L=true):Kd.all u b≠L:=fun e=>by subst e;cases hL
theorem eq_863 {L:Kd}(hL:Kl L=true):L≠.nam ai:=fun e=>by subst e;exact rN _ (rn (m:=ai) hL) rfl
theorem eq_864 {u:Fin 4}{b:Nat}(hb:b∈ao){L:Kd}(hL:Kl L=true)(hd:L.dep≤4)(hw:wB L≤60):eS (.all u b) L (mO u b L):=by
 have o:=eq_390 hL
 obtain⟨s,w,r,h1,h2,h3⟩:=eq_862 (u:=u) hb hL hd
 have q:=r [] 1 0 (Run.nil (b:=true) (eq_385 (S:=SU false u b) rfl (.inl rfl)))
 rw[Nat.mul_one,Nat.mul_zero,Nat.add_zero] at q
 exact⟨_,_,Run.step (gs:=[]) (eq_842 (u:=u) (rN b hb) o.1 o.2.2 (eq_219 hL) (eq_863 hL)) (small_one (qZ rfl)) (RunAll.cons q .nil),Nat.lt_of_le_of_lt (Nat.succ_le_succ (Nat.le_trans h2 (Nat.mul_le_mul_left 64 hw))) (qZ rfl),h3⟩
theorem eq_865 {n:Nat}{σ:ak}{K:KP}{u:Fin 4}{b:Nat}{L:Kd}(hn:65≤n)(hb:b∈ao)(hL:Kl L=true)(hd:L.dep≤4)(hw:wB L≤60)(k:K (.p (.bool (mO u b L))) σ):ae an n 46 [KV,.p (kD (.all u b)),.p (kD L)] σ K:=
 eq_34 (ok:=fun J=>mO u b L) hn (eq_219 hL) (qZ rfl) (qZ rfl) rfl (fun c hc=>mem_singleton.mp hc▸eq_864 hb hL hd hw) (by rw[show ((cs (.all u b)).all fun J=>mO u b L)=mO u b L from Bool.and_true _];exact k)
noncomputable def SA (u:Fin 4)(los ups:List Kd):Sd:=⟨1,some ⟨true,los,ups,c7 u⟩⟩
section
variable {n:Nat}{σ:ak}{s r q:Nat}{S:Sd}{K:KP}
theorem eq_866 {u:Fin 4}{b:Nat}{c:Kd}(hb:b≠ai)(h:bB σ s r S0)(k:K (.p (.lst (cu [(false,c,dn u)]))) ((σ.set r (gu (SU true u b))).set s (gJ r (SU true u b)))):ae an (n+31) 37 [.ref q,.p (kD c),.p (kD (.all u b)),.ref s] σ K:=by
 have hs:=h.1
 have hne:s≠r:=sC h.1 h.2
 have h':bB ((σ.set r (gu (SU true u b))).set s (gJ r (SU true u b))) s r (SU true u b):=⟨rV (c:=gJ r S0) (by rw[rL hne.symm];exact h.1),by rw[rL hne];exact rV h.2⟩
 refine rg rfl rfl (rk rfl ?_)
 generalize hm:n+30=m
 conv=>whnf
 rw[rH h]
 conv=>whnf
 subst hm
 refine eq_387 hb h ?_
 generalize hm:n+30=m
 conv=>whnf
 rw[rH h']
 conv=>whnf
 refine sF (by exact re (Nat.le_of_eq hm) (by simp +arith only)) h' rfl ?_
 exact k
theorem eq_867 {u:Fin 4}{b:Nat}{c:Kd}(hb:b≠ai)(hu:fE c=false)(ha:lM c=false)(hq:σ[q]?=some (b0 F))(h:bB σ s r S0)(k:K (.p (aZ [[(false,c,dn u)]])) ((σ.set r (gu (SU true u b))).set s (gJ r (SU true u b)))):ae an (n+32) 36 [.ref q,.p (kD c),.p (kD (.all u b)),.ref s] σ K:=by
 refine rg rfl rfl (rk rfl ?_)
 generalize hm:n+31=m
 refine rc rA ?_
 conv=>whnf
 rw[eq_11,hu]
 conv=>whnf
 rw[rA]
 conv=>whnf
 rw[eq_12,ha]
 refine rc (se hq) ?_
 conv=>whnf
 subst hm
 refine eq_866 hb h ?_
 exact k
end
theorem eq_868 {u:Fin 4}{b:Nat}{c:Kd}(hb:b≠ai)(l:Left c):aF S0 (false,c,.all u b) [[(false,c,dn u)]] (SU true u b):=by
 intro n σ q s r F K hq hs k
 have k:=k []
 rw[append_nil] at k
 have he:c≠.all u b:=fun e=>by subst e;cases l.al
 refine eq_61 (n:=n+39) (by exact qZ rfl) hq hs he (sG l.n rfl) l.d l.w l.e (eq_32 (fun e=>nomatch e)) (fun e=>?_) (fun e=>nomatch e) (eq_14 l.v) (eq_14 rfl) ?_
 ·subst e;cases l.v
 ·exact eq_867 (n:=n+7) hb l.u l.al hq hs k
noncomputable def i6:Kd→List Kd
 | .typ m=>[.nam m]
 | .arr m i=>[.nam m,.num i]
 | .tup ks none=>ks
 | .tup ks (some m)=>ks++[.nam m]
 | .uni ks=>ks
 | _=>[]
noncomputable def gx:Kd→Bool
 | .var=>false
 | .arv=>false
 | .all _ _=>false
 | .bot=>false
 | _=>true
theorem eq_869 {n:Nat}(hn:2≤n){k:Kd}(hp:gx k=true)(hl:k.wid≤300){σ:ak}{K:KP}(h:K (.p (.lst (kDs (i6 k)))) σ):ae an n 3 [.p (kD k)] σ K:=by
 obtain⟨n,rfl⟩:∃ m,n=m+1:=⟨n - 1,by exact rq hn⟩
 refine rg rfl rfl (rJ rfl rfl ?_)
 cases k with
 | nam m=>exact h
 | num i=>exact h
 | fn m=>exact h
 | typ m=>exact h
 | arr m i=>exact h
 | tup ks r=>
  have hw:ks.length≤300:=Nat.le_trans (Nat.le_max_left _ _) hl
  cases r with
  | none=>
   conv=>whnf
   rw[rD,rj (by exact u1 hw rfl)]
   conv=>whnf
   rw[rR]
   conv=>whnf
   rw[rD,rj (by simp;exact u1 hw rfl)]
   conv=>whnf
   rw[List.map_nil,append_nil,rR]
   exact h
  | some m=>
   conv=>whnf
   rw[rD,rj (by exact u1 hw rfl)]
   conv=>whnf
   rw[rR]
   conv=>whnf
   rw[rD,rj (by simp;exact u1 hw rfl)]
   conv=>whnf
   rw[← map_append,rR]
   have e:kDs (i6 (.tup ks (some m)))=kDs ks++[bJ m]:=tc
   rw[e] at h
   exact h
 | uni ks=>
  have hw:ks.length≤300:=Nat.le_trans (Nat.le_max_left _ _) hl
  conv=>whnf
  rw[rD,rj (by exact u1 hw rfl)]
  conv=>whnf
  rw[rR]
  exact h
 | _=>cases hp
noncomputable def lp (k:Kd):D:=.tup [kD k,.tup []]
noncomputable def nO (v:PV)(rest:aN):aN:=(ad,v)::(aH,.ref 0)::(bv,.ref 1)::rest
def iO (rest:aN):Prop:=rest=[]∨∃ A B,rest=[(aY,A),(bX,B)]
noncomputable def nP (ks:List Kd):ak:=[.list [],.list ((ks.map lp).map .p)]
theorem eq_870 {F:PV→ak→(List D→ak→Prop)→Prop}{vi:PV}{all:List PV}{σ:ak}{K:List D→ak→Prop}(hv:∀ R,R→dE vi all σ R):∀ {ks:List Kd},(∀ x∈ks,∀ K:List D→ak→Prop,K [lp x] σ→F (.p (kD x)) σ K)→K (ks.map lp) σ→dh vi all F (List.map PV.p (kDs ks)) σ K:=fun h k=>eq_26 hv h k
theorem eq_395 {ks:List Kd}{i:PV}(h:ks.length≤300):eC Sl.rev i (List.map PV.p (kDs ks))=some (List.map PV.p (kDs ks.reverse)):=by
 have e:(List.map PV.p (kDs ks)).length.ble 100000=true:=by rw[rD];exact rj (by exact u1 h rfl)
 have e6:(List.map PV.p (kDs ks)).reverse=List.map PV.p (kDs ks.reverse):=by rw[eq_25,eq_25];simp
 show (bif (List.map PV.p (kDs ks)).length.ble 100000 then some (List.map PV.p (kDs ks)).reverse else none)=_
 rw[e,e6];rfl
theorem eq_871 {n:Nat}{v:PV}{rest:aN}{ks:List Kd}{x:Kd}{R:T}{K:KR}(hr:iO rest)(hl:ks.length≤50000)(go:bu an.tab (ae an n) R (nO v [(aY,.p (kD x)),(bX,.p (.tup []))]) (nP ks) K) :
  bu an.tab (ae an n) (.cons (.unp [aY,bX] (.bme .pop (.var bv) .nil)) R) (nO v rest) (nP (ks++[x])) K:=by
 have e2:(List.map PV.p (List.map lp (ks++[x]))).getLast?=some (.p (lp x)):=by simp
 have e3:(List.map PV.p (List.map lp (ks++[x]))).dropLast=List.map PV.p (List.map lp ks):=by simp
 have e4:Nat.ble (List.map PV.p (List.map lp (ks++[x]))).length 100000=true:=by
  rw[show (List.map PV.p (List.map lp (ks++[x]))).length=ks.length+1 from by simp];exact rj (u5 hl rfl)
 rcases hr with rfl | ⟨A,B,rfl⟩
 all_goals
  refine rc e2 ?_
  rw[e3]
  refine rF e4 ?_
  exact go
theorem eq_872 {n:Nat}{v:PV}{ks:List Kd}{x:Kd}{K:KR}(hn:2≤n)(hx:gx x=true)(hw:x.wid≤300)(hl:ks.length≤50000)(hp:(i6 x).length≤300)
  (h:K .next (nO v [(aY,.p (kD x)),(bX,.p (.tup []))]) (nP (ks++(i6 x).reverse))):bu an.tab (ae an n) (iJ 1 oi) (nO v [(aY,.p (kD x)),(bX,.p (.tup []))]) (nP ks) K:=by
 have e5:List.map PV.p (List.map lp ks)++List.map PV.p (List.map lp (i6 x).reverse)=List.map PV.p (List.map lp (ks++(i6 x).reverse)):=by simp
 have hV:D.eqv (.str x.hdN) (.str aM)=false:=by rw[eq_9];cases x<;>first | rfl | cases hx
 have hA:D.eqv (.str x.hdN) (.str b6)=false:=by rw[eq_12];cases x<;>first | rfl | cases hx
 have hl2:(List.map PV.p (List.map lp ks)).length+(List.map lp (i6 x).reverse).length≤100000:=by
  simp;exact eq_138 hl hp rfl
 conv=>whnf
 rw[rA]
 refine sr hV ?_
 refine rc rA ?_
 refine sr hA ?_
 conv=>whnf
 refine eq_869 hn hx hw ?_
 conv=>whnf
 rw[eq_395 hp]
 conv=>whnf
 rw[rR]
 conv=>whnf
 rw[rD,rj (by simp;exact u1 hp rfl)]
 conv=>whnf
 refine eq_870 rM (fun y hy K hK=>hK) ?_
 conv=>whnf
 rw[rj hl2]
 conv=>whnf
 rw[e5]
 exact h
theorem eq_873 {n k:Nat}{v:PV}{rest:aN}{ks:List Kd}{x:Kd}{K:KR}(hn:2≤n)(hr:iO rest)(hx:gx x=true)(hw:x.wid≤300)(hl:ks.length≤50000)(hp:(i6 x).length≤300)
  (h:∀ rest,iO rest→bj (fun ρ σ K=>bR an.tab (ae an n) oD ρ σ (bK K)) (bu an.tab (ae an n) oi) k (nO v rest) (nP (ks++(i6 x).reverse)) K) :
  bj (fun ρ σ K=>bR an.tab (ae an n) oD ρ σ (bK K)) (bu an.tab (ae an n) oi) (k+1) (nO v rest) (nP (ks++[x])) K:=by
 have e1:(List.map PV.p (List.map lp (ks++[x]))).isEmpty=false:=by simp
 refine eq_186 (fun G g=>?_) (fun K2 k2=>eq_871 hr hl (eq_872 hn hx hw hl hp k2)) (h _ (.inr ⟨_,_,rfl⟩))
 conv=>whnf
 rw[e1]
 exact g
theorem eq_874 {n:Nat}{v:PV}{K:KR}(hn:2≤n)(kN:∀ rest,iO rest→K .next (nO v rest) (nP [])):∀ (N:Nat){ks:List Kd}{k:Nat}{rest:aN}(f:Kd→Nat),(∀ x∈ks,1≤f x)→iO rest→(ks.map f).sum≤N→N<k→N≤40000→
  (∀ x,1≤f x→gx x=true∧x.wid≤300∧(i6 x).length≤300∧((i6 x).map f).sum+1≤f x∧∀ y∈i6 x,1≤f y)→
  bj (fun ρ σ K=>bR an.tab (ae an n) oD ρ σ (bK K)) (bu an.tab (ae an n) oi) k (nO v rest) (nP ks) K:=by
 intro N
 induction N using Nat.strongRecOn with
 | ind N ih=>
  intro ks k rest f hf hr hN hk hN2 hg
  obtain⟨k,rfl⟩:∃ m,k=m+1:=⟨k - 1,by exact rq hk⟩
  rcases List.eq_nil_or_concat ks with rfl | ⟨ks0,x,rfl⟩
  ·have go:=kN rest hr
   rcases hr with rfl | ⟨A,B,rfl⟩<;>exact go
  ·rw[List.concat_eq_append] at *
   obtain⟨h1,h2,h3,h4,h5⟩:=hg x (hf x (by simp))
   have hs:((ks0++[x]).map f).sum=(ks0.map f).sum+f x:=by simp
   have hlen:∀ l:List Kd,(∀ x∈l,1≤f x)→l.length≤(l.map f).sum:=by
    intro l
    induction l with
    | nil=>intro _;simp
    | cons a l ihl=>
     intro h
     have:=h a (by simp)
     have:=ihl fun y hy=>h y (by simp[hy])
     simp only[List.map_cons,List.sum_cons,List.length_cons];exact Nat.add_comm 1 l.length▸Nat.add_le_add (h a (by simp)) this
   have hl0:=hlen ks0 fun y hy=>hf y (by simp[hy])
   refine eq_873 hn hr h1 h2 (by exact re (Nat.add_le_add hl0 (Nat.add_le_add (Nat.le_of_eq hs.symm) (Nat.add_le_add hN hN2))) (by simp +arith only)) h3 fun rest hr=>?_
   have hs2:((ks0++(i6 x).reverse).map f).sum=(ks0.map f).sum+((i6 x).map f).sum:=by simp
   have a1:((ks0++(i6 x).reverse).map f).sum<N:=rZ (Nat.add_le_add (Nat.le_of_eq hs2) (Nat.add_le_add (Nat.le_of_eq hs.symm) (Nat.add_le_add h4 hN))) (by simp +arith only)
   refine ih _ a1 f (fun y hy=>?_) hr (Nat.le_refl _) (Nat.lt_of_lt_of_le a1 (Nat.le_of_lt_succ hk)) (Nat.le_trans (Nat.le_of_lt a1) hN2) hg
   rcases mem_append.mp hy with hy | hy
   ·exact hf y (by simp[hy])
   ·exact h5 y (by simpa using hy)
theorem eq_396 {Φ:b9}{xs:List Nat}{e t:T}{ρ:aN}{σ:ak}{K:KR}(h:bR an.tab Φ e ρ σ fun v σ=>bQ (bo (.many xs) v ρ) fun ρ'=>bu an.tab Φ t ρ' σ K):bu an.tab Φ (.cons (.unp xs e) t) ρ σ K:=h
theorem eq_875 {n:Nat}(hn:3≤n){x:Kd}(f:Kd→Nat)(h1:1≤f x)(h2:f x≤40000)(hg:∀ x,1≤f x→gx x=true∧x.wid≤300∧(i6 x).length≤300∧((i6 x).map f).sum+1≤f x∧∀ y∈i6 x,1≤f y){σ₀:ak}{K:KP}(k:K (.p (.lst [])) σ₀):ae an n 6 [.p (kD x)] σ₀ K:=by
 obtain⟨n,rfl⟩:∃ m,n=m+1:=⟨n - 1,by exact rq hn⟩
 refine rg rfl rfl (rJ rfl rfl ?_)
 refine eq_6 (ρ:=[(ad,.p (kD x))]) rfl ?_
 refine eq_396 (t:=.cons (.whl oD oi) pZ) ?_
 generalize hX:bu an.tab (ae an n) (.cons (.whl oD oi) pZ)=X
 conv=>whnf
 subst hX
 refine eq_206 (ρ:=nO (.p (kD x)) []) (σ:=nP [x]) ?_
 refine eq_874 (by exact Nat.le_of_succ_le_succ hn) (fun rest hr=>?_) (f x) (ks:=[x]) (k:=dF) f (fun y hy=>by rw[mem_singleton.mp hy];exact h1) (.inl rfl) (by simp) (by unfold dF;exact u5 h2 rfl) h2 hg
 rcases hr with rfl | ⟨A,B,rfl⟩<;>exact k
mutual
noncomputable def nd:Kd→Nat
 | .typ _=>2
 | .arr _ _=>3
 | .tup ks _=>nds ks+2
 | .uni ks=>nds ks+1
 | _=>1
noncomputable def nds:List Kd→Nat
 | []=>0
 | k::ks=>nd k+nds ks
end
theorem eq_70 {ks:List Kd}:nds ks=(ks.map nd).sum:=by
 induction ks with
 | nil=>rfl
 | cons k ks ih=>exact congrArg (nd k+·) ih
theorem eq_876 {k:Kd}:1≤nd k:=by cases k<;>first | exact qZ rfl | exact Nat.le_add_left 1 _ | exact Nat.le_trans (qZ rfl) (Nat.le_add_left 2 _)
noncomputable def fN (k:Kd):Nat:=bif Cs k||jP k then nd k else 0
theorem eq_15 {k:Kd}(h:Cs k=true):fN k=nd k:=by unfold fN;rw[h];rfl
theorem eq_397 {k:Kd}(h:Cs k=true):1≤fN k:=eq_15 h▸eq_876
theorem eq_877 {ks:List Kd}(h:Css ks=true):(ks.map fN).sum=nds ks:=by
 induction ks with
 | nil=>rfl
 | cons k ks ih=>rw[List.map_cons,List.sum_cons,eq_15 (aT h).1,ih (aT h).2];rfl
theorem eq_878 {ks:List Kd}(h:Css ks=true):∀ y∈ks,1≤fN y:=fun y hy=>eq_397 (eq_65 h hy)
theorem eq_879 (x:Kd)(h:1≤fN x):gx x=true∧x.wid≤300∧(i6 x).length≤300∧((i6 x).map fN).sum+1≤fN x∧∀ y∈i6 x,1≤fN y:=by
 have nm:∀ m,ao.contains m=true→fN (.nam m)=1:=fun m hm=>eq_15 (k:=.nam m) hm
 cases x with
 | nam m=>exact⟨rfl,qZ rfl,qZ rfl,h,fun J h=>nomatch h⟩
 | num m=>exact⟨rfl,qZ rfl,qZ rfl,h,fun J h=>nomatch h⟩
 | fn m=>exact⟨rfl,qZ rfl,qZ rfl,h,fun J h=>nomatch h⟩
 | typ m=>
  cases hc:Cs (.typ m) with
  | false=>unfold fN at h;rw[hc] at h;exact absurd h (Nat.lt_irrefl 0)
  | true=>
   have e:=nm m hc
   refine⟨rfl,qZ rfl,qZ rfl,?_,fun y hy=>by rw[mem_singleton.mp hy];exact Nat.le_of_eq e.symm⟩
   rw[eq_15 hc]
   show fN (.nam m)+0+1≤2
   rw[e]
   exact qZ rfl
 | arr m i=>
  cases hc:Cs (.arr m i) with
  | false=>unfold fN at h;rw[hc] at h;exact absurd h (Nat.lt_irrefl 0)
  | true=>
   have e:=nm m hc
   refine⟨rfl,qZ rfl,qZ rfl,?_,fun y hy=>(mem_cons.mp hy).elim (fun q=>q▸Nat.le_of_eq e.symm) fun hy=>by rw[mem_singleton.mp hy];exact qZ rfl⟩
   rw[eq_15 hc]
   show fN (.nam m)+(1+0)+1≤3
   rw[e]
   exact qZ rfl
 | tup ks r=>
  cases hc:Cs (.tup ks r) with
  | false=>unfold fN at h;rw[hc] at h;exact absurd h (Nat.lt_irrefl 0)
  | true=>
   have hl:ks.length≤2:=Nat.le_of_ble_eq_true (aT (aT hc).1).1
   have hs:=eq_877 (aT hc).2
   have ht:=eq_878 (aT hc).2
   refine⟨rfl,u1 (eq_378 _ hc) rfl,?_⟩
   rw[eq_15 hc]
   show _∧_≤nds ks+2∧_
   cases r with
   | none=>
    refine⟨u1 hl rfl,?_,ht⟩
    show (ks.map fN).sum+1≤_
    rw[hs]
    exact Nat.le_succ _
   | some m=>
    have e:=nm m (aT (aT hc).1).2
    refine⟨by show (ks++[Kd.nam m]).length≤300;rw[length_append];exact u9 hl rfl,?_,fun y hy=>(mem_append.mp hy).elim (ht y) fun hy=>by rw[mem_singleton.mp hy];exact Nat.le_of_eq e.symm⟩
    show ((ks++[Kd.nam m]).map fN).sum+1≤_
    rw[map_append,List.sum_append,hs]
    show nds ks+(fN (.nam m)+0)+1≤_
    rw[e]
    exact Nat.le_refl _
 | _=>exact absurd h (Nat.lt_irrefl 0)
theorem eq_880 {ks:List Kd}{m:Nat}(h:∀ k∈ks,nd k≤m):nds ks≤ks.length*m:=by
 induction ks with
 | nil=>exact Nat.zero_le _
 | cons k ks ih=>
  show nd k+nds ks≤(ks.length+1)*m
  rw[Nat.succ_mul,Nat.add_comm]
  exact Nat.add_le_add (ih fun x hx=>h x (mem_cons_of_mem _ hx)) (h k mem_cons_self)
theorem eq_881 (k:Kd):Cs k=true→nd k≤4 ^ k.dep:=by
 refine Kd.rec (motive_1:=fun k=>Cs k=true→nd k≤4 ^ k.dep) (motive_2:=fun ks=>∀ k∈ks,Cs k=true→nd k≤4 ^ k.dep) ff (fun J J=>qZ rfl) (fun J=>ff) (fun J J=>qZ rfl) (fun J J=>qZ rfl) (fun J J J=>qZ rfl) (fun ks r ih h=>?_) (fun J J=>ff) ff ff (fun J J=>ff)
  (fun J h=>nomatch h) (fun J J ih ihs x hx=>(mem_cons.mp hx).elim (fun e=>e▸ih) (ihs x)) k
 have p:1≤4 ^ Kd.deps ks:=Nat.pow_pos (qZ rfl)
 have q:=eq_880 (m:=4 ^ Kd.deps ks) fun x hx=>Nat.le_trans (ih x hx (eq_65 (aT h).2 hx)) (Nat.pow_le_pow_right (qZ rfl) (su hx))
 show nds ks+2≤4 ^ Kd.deps ks*4
 refine Nat.le_trans (Nat.add_le_add (Nat.le_trans q (Nat.mul_le_mul_right _ (Nat.le_of_ble_eq_true (aT (aT h).1).1))) (Nat.mul_le_mul_left 2 p)) ?_
 rw[← Nat.add_mul,Nat.mul_comm]
 exact Nat.le_refl _
theorem eq_398 {n:Nat}(hn:3≤n){x:Kd}(h:Cs x=true)(hd:x.dep≤6){σ:ak}{K:KP}(k:K (.p (.lst [])) σ):ae an n 6 [.p (kD x)] σ K:=
 eq_875 hn fN (eq_397 h) (by rw[eq_15 h];exact Nat.le_trans (eq_881 x h) (Nat.le_trans (Nat.pow_le_pow_right (qZ rfl) hd) (qZ rfl))) eq_879 k
section
variable {n:Nat}{σ:ak}{s r q:Nat}{S:Sd}{K:KP}
theorem eq_882 {x:Kd}(h:Cs x=true):D.eqv (kD x) (.tup [.str aM,.str fx])=false:=by
 exact rU.trans (decide_eq_false (p:=x=.var) fun e=>by subst e;exact ff h)
theorem eq_399 (hn:4≤n){x:Kd}(h:Cs x=true)(hd:x.dep≤6)(k:K (.p (.bool false)) σ):ae an n 44 [.p (.str fx),.p (kD x)] σ K:=by
 obtain⟨n,rfl⟩:∃ m,n=m+1:=⟨n - 1,u3 hn rfl⟩
 refine rg rfl rfl (rJ rfl rfl ?_)
 conv=>whnf
 refine mT (r6 (u1 hd rfl)) ?_
 rw[eq_882 h]
 conv=>whnf
 refine eq_398 (u2 hn rfl) h hd ?_
 exact k
theorem eq_400 (hn:5≤n){x:Kd}{y:Sd1}(hs:bB σ s r S)(hy:S.row=some y)(h:Cs x=true)(hd:x.dep≤6)(k:K (.ref σ.length) (σ++[.list []])):ae an n 21 [.ref s,.p (kD x),.p (.str fx)] σ K:=by
 obtain⟨n,rfl⟩:∃ m,n=m+1:=⟨n - 1,u3 hn rfl⟩
 refine rg rfl rfl (rk rfl ?_)
 refine rc (rH hs) ?_
 conv=>whnf
 refine sF (u2 hn rfl) hs hy ?_
 conv=>whnf
 refine eq_398 (u2 hn rfl) h hd ?_
 exact k
end
noncomputable def Sd1.lo (x:Sd1)(k:Kd):Sd1:=⟨x.asked,x.los++[k],x.ups,x.diag⟩
noncomputable def Sd1.up (x:Sd1)(k:Kd):Sd1:=⟨x.asked,x.los,x.ups++[k],x.diag⟩
section
variable {n:Nat}{σ:ak}{s r q:Nat}{S:Sd}{K:KP}
theorem bB.app (h:bB σ s r S)(τ:ak):bB (σ++τ) s r S:=⟨rE h.1,rE h.2⟩
theorem eq_883 (hn:7≤n){x:Kd}{y:Sd1}(hs:bB σ s r S)(hy:S.row=some y)(h:Cs x=true)(hd:x.dep≤6)(k:K (.p (kD x)) (σ++[.list []])):ae an n 43 [.p (.str fx),.p (kD x),.ref s] σ K:=by
 obtain⟨n,rfl⟩:∃ m,n=m+1:=⟨n - 1,by exact rq hn⟩
 refine rg rfl rfl (rk rfl ?_)
 refine rc (rH hs) ?_
 conv=>whnf
 refine eq_400 (by exact u2 hn rfl) hs hy h hd ?_
 refine s8 sz ?_
 conv=>whnf
 refine eq_399 (by exact u2 hn rfl) h hd ?_
 exact k
theorem eq_884 (hn:7≤n){x:Kd}{y:Sd1}(hs:bB σ s r S)(hy:S.row=some y)(h:Cs x=true)(hd:x.dep≤6)(k:K (.p (kD x)) (σ++[.list []])):ae an n 42 [.p (.str fx),.p (kD x),.ref s] σ K:=by
 obtain⟨n,rfl⟩:∃ m,n=m+1:=⟨n - 1,by exact rq hn⟩
 refine rg rfl rfl (rk rfl ?_)
 refine rc (rH hs) ?_
 conv=>whnf
 refine eq_400 (by exact u2 hn rfl) hs hy h hd ?_
 refine s8 sz ?_
 conv=>whnf
 refine eq_399 (by exact u2 hn rfl) h hd ?_
 exact k
theorem eq_401 {l:List Kd}{k:Kd}:kDs l++[kD k]=kDs (l++[k]):=by rw[tc];rfl
theorem eq_885 (hn:4≤n){x:Sd1}{c:Kd}(hl:x.los.length≤300)(k:K (d6 (x.lo c)) σ):ae an n 10 [d6 x,.p (kD c)] σ K:=by
 obtain⟨n,rfl⟩:∃ m,n=m+4:=⟨n - 4,by exact u3 hn rfl⟩
 refine rg rfl rfl (rJ rfl rfl ?_)
 conv=>whnf
 rw[s9,rj (by simp;exact u1 hl rfl)]
 conv=>whnf
 rw[eq_401]
 exact k
theorem eq_886 (hn:4≤n){x:Sd1}{c:Kd}(hl:x.ups.length≤300)(k:K (d6 (x.up c)) σ):ae an n 11 [d6 x,.p (kD c)] σ K:=by
 obtain⟨n,rfl⟩:∃ m,n=m+4:=⟨n - 4,by exact u3 hn rfl⟩
 refine rg rfl rfl (rJ rfl rfl ?_)
 conv=>whnf
 rw[s9,rj (by simp;exact u1 hl rfl)]
 conv=>whnf
 rw[eq_401]
 exact k
theorem eq_402 {v w:PV}(h:σ[r]?=some (.dict [fx] [v])):jc σ (.ref r) (.p (.str fx)) w=some (σ.set r (.dict [fx] [w])):=by
 simp only[jc,h];rfl
theorem eq_887 (hn:5≤n){x:Sd1}{c:Kd}{m:Nat}(hs:bB σ s r ⟨m,some x⟩)(hl:x.los.length≤300)(k:K (.p .none) (σ.set r (gu ⟨m,some (x.lo c)⟩))):ae an n 19 [.ref s,.p (.str fx),.p (kD c)] σ K:=by
 obtain⟨n,rfl⟩:∃ m,n=m+1:=⟨n - 1,by exact rq hn⟩
 refine rg rfl rfl (rk rfl ?_)
 conv=>whnf
 rw[sd hs]
 conv=>whnf
 rw[eq_113 hs rfl]
 conv=>whnf
 refine eq_885 (by exact Nat.le_of_succ_le_succ hn) hl ?_
 refine rc (sd hs) ?_
 refine rc (eq_402 hs.2) ?_
 exact k
theorem eq_888 (hn:5≤n){x:Sd1}{c:Kd}{m:Nat}(hs:bB σ s r ⟨m,some x⟩)(hl:x.ups.length≤300)(k:K (.p .none) (σ.set r (gu ⟨m,some (x.up c)⟩))):ae an n 20 [.ref s,.p (.str fx),.p (kD c)] σ K:=by
 obtain⟨n,rfl⟩:∃ m,n=m+1:=⟨n - 1,by exact rq hn⟩
 refine rg rfl rfl (rk rfl ?_)
 conv=>whnf
 rw[sd hs]
 conv=>whnf
 rw[eq_113 hs rfl]
 conv=>whnf
 refine eq_886 (by exact Nat.le_of_succ_le_succ hn) hl ?_
 refine rc (sd hs) ?_
 refine rc (eq_402 hs.2) ?_
 exact k
theorem eq_119 {c:Kd}{l:List Kd}:dY (kD c) (kDs l)=l.contains c:=by
 induction l with
 | nil=>rfl
 | cons x l ih=>
  show (D.eqv (kD x) (kD c)||dY (kD c) (kDs l))=_
  rw[ih,rU,List.contains_cons]
  congr 1
  by_cases e:x=c
  ·subst e;simp
  ·rw[decide_eq_false e];simp[Ne.symm e]
theorem eq_120 {c:Kd}:gW (.p (kD c))=false:=by
 obtain⟨r,e⟩:=eq_57 c
 rw[e];rfl
theorem eq_403 (hn:8≤n){x:Sd1}{c:Kd}{m:Nat}(hs:bB σ s r ⟨m,some x⟩)(hl:x.los.length≤300)(hu:x.ups.length≤300)(h:Cs c=true)(hd:c.dep≤6)
  (k0:x.los.contains c=true→K (.p (aZ [[]])) (σ++[.list []]))
  (k1:x.los.contains c=false→K (.p (aZ [x.ups.map fun u=>(false,c,u)])) ((σ++[Cell.list []]).set r (gu ⟨m,some (x.lo c)⟩))) :
  ae an n 35 [.ref q,.p (.str fx),.p (kD c),.ref s] σ K:=by
 have hs':=hs.app [Cell.list []]
 obtain⟨n,rfl⟩:∃ m,n=m+1:=⟨n - 1,by exact rq hn⟩
 refine rg rfl rfl (rk rfl ?_)
 conv=>whnf
 refine eq_883 (by exact Nat.le_of_succ_le_succ hn) hs rfl h hd ?_
 conv=>whnf
 rw[eq_120]
 conv=>whnf
 rw[rH hs']
 conv=>whnf
 refine sF (by exact u2 hn rfl) hs' rfl ?_
 conv=>whnf
 obtain⟨rd,ec⟩:=eq_57 c
 rw[ec]
 conv=>whnf
 rw[← ec]
 refine mT (r6 (k:=c) (by exact u1 hd rfl)) ?_
 rw[eq_119]
 cases q1:x.los.contains c with
 | true=>
  conv=>whnf
  rw[eq_120]
  exact k0 q1
 | false=>
  refine rc (rH hs') ?_
  conv=>whnf
  refine eq_887 (by exact u2 hn rfl) hs' hl ?_
  conv=>whnf
  have hs2:bB ((σ++[Cell.list []]).set r (gu ⟨m,some (x.lo c)⟩)) s r ⟨m,some (x.lo c)⟩:=by
   refine⟨?_,rV hs'.2⟩
   rw[rL (sC hs'.1 hs'.2).symm]
   exact hs'.1
  rw[rH hs2]
  conv=>whnf
  refine sF (by exact u2 hn rfl) hs2 rfl ?_
  conv=>whnf
  rw[rD,rj (by simp only[Sd1.lo];exact u1 hu rfl)]
  conv=>whnf
  refine eq_26 (g:=fun u=>gD (false,c,u)) rM (fun x hx K hK=>hK) ?_
  have k1:=k1 q1
  have e:(x.lo c).ups.map (fun u=>gD (false,c,u))=cu (x.ups.map fun u=>(false,c,u)):=by
   simp[cu,Sd1.lo]
  rw[e]
  exact k1
theorem eq_404 (hn:8≤n){x:Sd1}{c:Kd}{m:Nat}(hs:bB σ s r ⟨m,some x⟩)(hl:x.los.length≤300)(hu:x.ups.length≤300)(h:Cs c=true)(hd:c.dep≤6)
  (k0:x.ups.contains c=true→K (.p (aZ [[]])) (σ++[.list []]))
  (k1:x.ups.contains c=false→K (.p (aZ [x.los.map fun u=>(false,u,c)])) ((σ++[Cell.list []]).set r (gu ⟨m,some (x.up c)⟩))) :
  ae an n 34 [.ref q,.p (.str fx),.p (kD c),.ref s] σ K:=by
 have hs':=hs.app [Cell.list []]
 obtain⟨n,rfl⟩:∃ m,n=m+1:=⟨n - 1,by exact rq hn⟩
 refine rg rfl rfl (rk rfl ?_)
 conv=>whnf
 refine eq_884 (by exact Nat.le_of_succ_le_succ hn) hs rfl h hd ?_
 conv=>whnf
 rw[eq_120]
 conv=>whnf
 rw[rH hs']
 conv=>whnf
 refine sF (by exact u2 hn rfl) hs' rfl ?_
 conv=>whnf
 obtain⟨rd,ec⟩:=eq_57 c
 rw[ec]
 conv=>whnf
 rw[← ec]
 refine mT (r6 (k:=c) (by exact u1 hd rfl)) ?_
 rw[eq_119]
 cases q1:x.ups.contains c with
 | true=>
  conv=>whnf
  rw[eq_120]
  exact k0 q1
 | false=>
  refine rc (rH hs') ?_
  conv=>whnf
  refine eq_888 (by exact u2 hn rfl) hs' hu ?_
  conv=>whnf
  have hs2:bB ((σ++[Cell.list []]).set r (gu ⟨m,some (x.up c)⟩)) s r ⟨m,some (x.up c)⟩:=by
   refine⟨?_,rV hs'.2⟩
   rw[rL (sC hs'.1 hs'.2).symm]
   exact hs'.1
  rw[rH hs2]
  conv=>whnf
  refine sF (by exact u2 hn rfl) hs2 rfl ?_
  conv=>whnf
  rw[rD,rj (by simp only[Sd1.up];exact u1 hl rfl)]
  conv=>whnf
  refine eq_26 (g:=fun u=>gD (false,u,c)) rM (fun x hx K hK=>hK) ?_
  have k1:=k1 q1
  have e:(x.up c).los.map (fun u=>gD (false,u,c))=cu (x.los.map fun u=>(false,u,c)):=by
   simp[cu,Sd1.up]
  rw[e]
  exact k1
end
theorem eq_405 {σ:ak}{s r m:Nat}{x y:Sd1}(h:bB σ s r ⟨m,some x⟩):((σ.set r (gu ⟨m,some y⟩)).set s (gJ r ⟨m,some y⟩))=σ.set r (gu ⟨m,some y⟩):=by
 apply eq_195
 rw[rL (sC h.1 h.2).symm]
 exact h.1
theorem eq_406 {n:Nat}{σ:ak}{s r q:Nat}{S:Sd}{K:KP}(hn':26≤n){a:Kd}{F:Int}(hq:σ[q]?=some (b0 F))(h:bB σ s r S)(l:Left a)(hr:S.row≠none)(hb':asked S .var=true)
  (k:ae an n 35 [.ref q,.p (.str fx),.p (kD a),.ref s] σ K):ae an (n+1) 32 [.ref q,.p (gD (false,a,.var)),.ref s] σ K:=by
 have he:a≠.var:=fun e=>by have:=l.v;subst e;cases this
 have hd:=l.d
 show ae an (n+1) 32 [.ref q,.p (.tup [.str bU,kD a,kD .var]),.ref s] σ K
 refine rg rfl rfl (rk rfl ?_)
 conv=>whnf
 refine mT (r6 (k:=a) hd) ?_
 rw[show D.eqv (kD a) (kD .var)=false from by rw[rU,decide_eq_false he]]
 refine rc rA ?_
 refine sr (show dY (.str fD) [.str a.hdN,.str aM]=false from sG (b:=.var) l.n rfl) ?_
 conv=>whnf
 refine eq_60 a (by exact re (Nat.add_le_add hd hn') (by simp +arith only)) l.w ?_
 rw[l.e]
 conv=>whnf
 rw[rH h]
 conv=>whnf
 refine eq_10 (by exact re hn' (by simp +arith only)) h (fun e=>absurd e he) ?_
 rw[eq_14 l.v]
 conv=>whnf
 rw[rH h]
 conv=>whnf
 refine eq_10 (a:=.var) (by exact re hn' (by simp +arith only)) h (fun J=>hr) ?_
 rw[hb']
 refine rc (se hq) ?_
 exact k
theorem eq_407 {n:Nat}{σ:ak}{s r q:Nat}{S:Sd}{K:KP}(hn':26≤n){a:Kd}{F:Int}(hq:σ[q]?=some (b0 F))(h:bB σ s r S)(hN:jP a=false)(he:Kd.var≠a)(hA:a≠.nam ai)(hr:S.row≠none)(hb':asked S .var=true)
  (k:ae an n 34 [.ref q,.p (.str fx),.p (kD a),.ref s] σ K):ae an (n+1) 32 [.ref q,.p (gD (false,.var,a)),.ref s] σ K:=by
 show ae an (n+1) 32 [.ref q,.p (.tup [.str bU,kD .var,kD a]),.ref s] σ K
 refine rg rfl rfl (rk rfl ?_)
 refine sr (show D.eqv (kD .var) (kD a)=false from by rw[rU,decide_eq_false he]) ?_
 refine rc rA ?_
 conv=>whnf
 rw[show dY (.str fD) [.str aM,.str a.hdN]=false from sG (a:=.var) rfl hN]
 conv=>whnf
 refine eq_60 .var (show 1+_≤_ from re hn' (by simp +arith only)) (qZ rfl) ?_
 conv=>whnf
 rw[show D.eqv (kD a) (.tup [.str aa,.str ai,.tup []])=false from eq_32 hA]
 conv=>whnf
 rw[rH h]
 conv=>whnf
 refine eq_10 (a:=.var) (by exact re hn' (by simp +arith only)) h (fun J=>hr) ?_
 rw[hb']
 refine rc (se hq) ?_
 exact k
section
variable {m:Nat}{x:Sd1}{c:Kd}
theorem eq_889 (ha:x.asked=true)(hl:x.los.length≤300)(hu:x.ups.length≤300)(h:Cs c=true)(hd:c.dep≤6)(hc:x.los.contains c=true):aF ⟨m,some x⟩ (false,c,.var) [[]] ⟨m,some x⟩:=by
 intro n σ q s r F K hq hs k
 refine eq_406 (n:=n+39) (by exact qZ rfl) hq hs (rQ h (by exact u1 hd rfl)) (fun e=>nomatch e) ha (eq_403 (by exact qZ rfl) hs hl hu h hd (fun J=>?_) (fun e=>?_))
 ·have:=k [.list []]
  rw[eq_196 (hs.app _)] at this
  exact this
 ·rw[hc] at e;cases e
theorem eq_890 (ha:x.asked=true)(hl:x.los.length≤300)(hu:x.ups.length≤300)(h:Cs c=true)(hd:c.dep≤6)(hc:x.los.contains c=false):aF ⟨m,some x⟩ (false,c,.var) [x.ups.map fun u=>(false,c,u)] ⟨m,some (x.lo c)⟩:=by
 intro n σ q s r F K hq hs k
 refine eq_406 (n:=n+39) (by exact qZ rfl) hq hs (rQ h (by exact u1 hd rfl)) (fun e=>nomatch e) ha (eq_403 (by exact qZ rfl) hs hl hu h hd (fun e=>?_) (fun J=>?_))
 ·rw[hc] at e;cases e
 ·have:=k [.list []]
  rw[eq_405 (hs.app _)] at this
  exact this
theorem eq_121 (h:Cs c=true):Kd.var≠c∧c≠.nam ai:=⟨fun e=>(by subst e;cases h),fun e=>(by subst e;exact rN _ (rn (m:=ai) h) rfl)⟩
theorem eq_891 (ha:x.asked=true)(hl:x.los.length≤300)(hu:x.ups.length≤300)(h:Cs c=true)(hd:c.dep≤6)(hc:x.ups.contains c=true):aF ⟨m,some x⟩ (false,.var,c) [[]] ⟨m,some x⟩:=by
 intro n σ q s r F K hq hs k
 refine eq_407 (n:=n+39) (by exact qZ rfl) hq hs (rQ h (by exact u1 hd rfl)).n (eq_121 h).1 (eq_121 h).2 (fun e=>nomatch e) ha (eq_404 (by exact qZ rfl) hs hl hu h hd (fun J=>?_) (fun e=>?_))
 ·have:=k [.list []]
  rw[eq_196 (hs.app _)] at this
  exact this
 ·rw[hc] at e;cases e
theorem eq_892 (ha:x.asked=true)(hl:x.los.length≤300)(hu:x.ups.length≤300)(h:Cs c=true)(hd:c.dep≤6)(hc:x.ups.contains c=false):aF ⟨m,some x⟩ (false,.var,c) [x.los.map fun u=>(false,u,c)] ⟨m,some (x.up c)⟩:=by
 intro n σ q s r F K hq hs k
 refine eq_407 (n:=n+39) (by exact qZ rfl) hq hs (rQ h (by exact u1 hd rfl)).n (eq_121 h).1 (eq_121 h).2 (fun e=>nomatch e) ha (eq_404 (by exact qZ rfl) hs hl hu h hd (fun e=>?_) (fun J=>?_))
 ·rw[hc] at e;cases e
 ·have:=k [.list []]
  rw[eq_405 (hs.app _)] at this
  exact this
end
def ci (S:Sd)(gs:List G) (B:Nat)(ok:Bool):Prop:=∃ s c,Run S gs s c∧c≤B∧(s≠0↔ok=true)
section
variable {S S':Sd}{gs:List G}{A B C:Nat}{ok ok':Bool}
theorem eq_893 {b:Bool}:(bif b then 1 else 0)≠0↔b=true:=by cases b<;>decide
theorem eq_894 {a b:Nat}:a*b≠0↔a≠0∧b≠0:=⟨fun h=>⟨fun e=>h (by rw[e,Nat.zero_mul]),fun e=>h (by rw[e,Nat.mul_zero])⟩,fun h=>Nat.mul_ne_zero h.1 h.2⟩
theorem eq_220 {b:Bool}(h:iL S b):ci S [] 0 b:=⟨_,_,Run.nil h,Nat.le_refl _,eq_893⟩
theorem eq_37 {way:List G}(h:fg S way A B ok)(h':ci S gs C ok'):ci S (gs++way) (B+A*C) (ok&&ok'):=by
 obtain⟨s,w,r,h1,h2,h3⟩:=h
 obtain⟨s',c',r',h2',h3'⟩:=h'
 refine⟨_,_,r _ _ _ r',Nat.add_le_add h2 (Nat.mul_le_mul h1 h2'),?_⟩
 rw[Bool.and_eq_true,← h3,← h3']
 exact eq_894
theorem rO {g:G}{w:List G}(h:aF S g [w] S')(hw:w.length≤20)(r:ci S' (gs++w) C ok):ci S (gs++[g]) (C+1) ok:=by
 obtain⟨s,c,r,h1,h2⟩:=r
 exact⟨_,_,Run.step h (small_one hw) (RunAll.cons r .nil),Nat.succ_le_succ h1,h2⟩
theorem rX {g:G}(h:aF S g [] S'):ci S (gs++[g]) 1 false:=⟨_,_,Run.step h eq_377 .nil,Nat.le_refl _,fun h=>absurd rfl h,ff⟩
theorem rI (h:ci S gs B ok)(hB:B≤C):ci S gs C ok:=by
 obtain⟨s,c,r,h1,h2⟩:=h
 exact⟨s,c,r,Nat.le_trans h1 hB,h2⟩
theorem eq_895 {c L:Kd}(h:ci S0 [(false,c,L)] B ok)(hB:B<4000):eS c L ok:=by
 obtain⟨s,m,r,h1,h2⟩:=h
 exact⟨s,m,r,Nat.lt_of_le_of_lt h1 hB,h2⟩
theorem eq_16 (h:ci S gs B ok)(e:ok=ok'):ci S gs B ok':=e▸h
theorem eq_221 {p:Kd}{b:Nat}(hb:b∈ao)(h:Cs p=true)(hd:p.dep≤20)(hc:bL p (.nam b)=false):aF S (false,p,.nam b) [] S:=by
 have l:=rQ h hd
 cases p with
 | nam m=>
  have w:=eq_371 (S:=S) (rn h) hb (fun e=>by subst e;exact ff (hc.symm.trans (eq_66 m hb)))
  rw[if_neg fun q=>ff (hc.symm.trans (List.elem_eq_true_of_mem q))] at w
  exact w
 | fn m=>exact ry l rfl rfl rfl rfl (fun e=>nomatch e) (r7 (rN b hb)) (eq_383 hb)
 | typ m=>exact ry l rfl rfl rfl rfl (fun e=>nomatch e) (r7 (rN b hb)) (eq_382 hb)
 | arr m i=>exact eq_373 hb
 | tup ks r=>exact ry l rfl rfl rfl rfl (fun e=>nomatch e) (r7 (rN b hb)) (by kernel_rfl)
 | _=>exact ff h
theorem eq_222 {p:Kd}{b:Nat}(hb:b∈ao)(h:Cs p=true)(hd:p.dep≤20)(hc:bL p (.nam b)=true):GB S (false,p,.nam b) 1 5 true:=by
 have w:=eq_112 (S:=S) 1 (L:=.nam b) (qZ rfl) h hd (r9 hb)
 rw[hc] at w
 exact w
theorem eq_71 {p:Kd}{b:Nat}(hc:bL p (.nam b)=true):∃ x,p=.nam x∧(chain x).contains b=true:=by
 cases p with
 | nam x=>exact⟨x,rfl,hc⟩
 | _=>exact ff hc
end
noncomputable def eT (x:Nat):Bool:=[aG,cz,aA].contains x
noncomputable def kq (c:Kd)(u:Fin 4) (b:Nat):Bool:=match u with
 | 0=>match c with
  | .tup [p] none=>bL p (.nam b)
  | _=>false
 | 1=>match c with
  | .tup [p,p'] none=>(decide (p=p')&&bL p (.nam b))&&(match p with
   | .nam x=>eT x
   | _=>false)
  | _=>false
 | 2=>match c with
  | .arr m i=>i==1&&(chain m).contains b
  | _=>false
 | 3=>match c with
  | .tup [p,.arr m i] none=>(i==1&&(chain m).contains b)&&(bL p (.nam b)&&bL p (.nam m))
  | _=>false
section
variable {u:Fin 4}{b:Nat}{gs:List G}{C:Nat}{ok:Bool}
theorem eq_408 {los ups:List Kd}{c:Kd}(hl:los.length≤300)(hu:ups.length≤300)(h:Cs c=true)(hd:c.dep≤6)(hc:los.contains c=true):aF (SA u los ups) (false,c,.var) [[]] (SA u los ups):=eq_889 (x:=⟨true,los,ups,c7 u⟩) rfl hl hu h hd hc
theorem eq_122 {los ups:List Kd}{c:Kd}(hl:los.length≤300)(hu:ups.length≤300)(h:Cs c=true)(hd:c.dep≤6)(hc:los.contains c=false):aF (SA u los ups) (false,c,.var) [ups.map fun x=>(false,c,x)] (SA u (los++[c]) ups):=eq_890 (x:=⟨true,los,ups,c7 u⟩) rfl hl hu h hd hc
theorem eq_896 {los ups:List Kd}{c:Kd}(hl:los.length≤300)(hu:ups.length≤300)(h:Cs c=true)(hd:c.dep≤6)(hc:ups.contains c=true):aF (SA u los ups) (false,.var,c) [[]] (SA u los ups):=eq_891 (x:=⟨true,los,ups,c7 u⟩) rfl hl hu h hd hc
theorem eq_897 {los ups:List Kd}{c:Kd}(hl:los.length≤300)(hu:ups.length≤300)(h:Cs c=true)(hd:c.dep≤6)(hc:ups.contains c=false):aF (SA u los ups) (false,.var,c) [los.map fun x=>(false,x,c)] (SA u los (ups++[c])):=eq_892 (x:=⟨true,los,ups,c7 u⟩) rfl hl hu h hd hc
theorem eq_898 {los ups:List Kd}(h:c7 u=false):iL (SA u los ups) true:=eq_385 (x:=⟨true,los,ups,c7 u⟩) rfl (.inr h)
noncomputable def d7 (b m:Nat):List Kd:=if m=b then [.nam b] else [.nam b,.nam m]
theorem eq_123 {C k c:Nat}(q:Nat.ble k c=true):C+k≤C+c:=Nat.add_le_add_left (qZ q) C
theorem eq_124 {m:Nat}:d7 m m=[.nam m]:=if_pos rfl
theorem eq_125 {m:Nat}(e:m≠b):d7 b m=[.nam b,.nam m]:=if_neg e
theorem eq_409 {m:Nat}:(d7 b m).length≤2:=by unfold d7;split<;>exact qZ rfl
theorem eq_223 {a:Kd}{as:List Kd}:(a::as).contains a=true:=List.elem_eq_true_of_mem mem_cons_self
theorem eq_224 {a c:Kd}(e:c≠a):[a].contains c=false:=Bool.eq_false_iff.mpr fun q=>e (mem_singleton.mp (List.mem_of_elem_eq_true q))
theorem eq_225 {x y:G}:gs++[x,y]=(gs++[x])++[y]:=(append_assoc gs [x] [y]).symm
theorem eq_410 {m:Nat}{ups:List Kd}(hb:b∈ao)(hm:m∈ao)(r:(chain m).contains b=true→ci (SA u [.nam m] (d7 b m)) gs C ok)(hu:ups=d7 b m):ci (SA u [] ups) (gs++[(false,.nam m,.var)]) (C+15) ((chain m).contains b&&ok):=by
 have hcm:Cs (.nam m)=true:=r9 hm
 have s3:=fun ups h=>eq_122 (u:=u) (los:=[]) (ups:=ups) (c:=.nam m) (qZ rfl) h hcm (qZ rfl) rfl
 subst hu
 cases hc:(chain m).contains b with
 | true=>
  have g1:=fun S=>eq_222 (S:=S) hb hcm (qZ rfl) hc
  have r:=r hc
  by_cases e:m=b
  ·subst e
   rw[eq_124] at r ⊢
   exact rI (rO (s3 _ (qZ rfl)) (qZ rfl) (eq_37 (gs:=gs) (g1 _) r)) (by rw[Nat.one_mul,Nat.add_comm 5];exact eq_123 (k:=6) rfl)
  ·rw[eq_125 e] at r ⊢
   exact rI (rO (s3 _ (qZ rfl)) (qZ rfl) (eq_37 (gs:=gs) (sD (g1 _) (sg (sH (a:=.nam m) (qZ rfl)))) r)) (by show 6+1*C+1≤C+15;rw[Nat.one_mul C,Nat.add_comm _ C];exact eq_123 (k:=7) rfl)
 | false=>
  rw[Bool.false_and]
  have f1:=fun S=>eq_221 (S:=S) hb hcm (qZ rfl) hc
  have h2:2≤C+15:=Nat.le_trans (qZ rfl) (Nat.le_add_left 15 C)
  have h3:3≤C+15:=Nat.le_trans (qZ rfl) (Nat.le_add_left 15 C)
  by_cases e:m=b
  ·subst e
   rw[eq_124]
   exact rI (rO (s3 _ (qZ rfl)) (qZ rfl) (rX (gs:=gs) (f1 _))) h2
  ·rw[eq_125 e]
   refine rI (rO (s3 _ (qZ rfl)) (qZ rfl) (C:=2) ?_) h3
   show ci _ (gs++[(false,.nam m,.nam b),(false,.nam m,.nam m)]) _ _
   rw[eq_225]
   exact rO (sH (qZ rfl)) (qZ rfl) (by rw[append_nil];exact rX (gs:=gs) (f1 _))
theorem eq_899 {m:Nat}(hb:b∈ao)(hm:m∈ao)(r:(chain m).contains b=true→ci (SA u [.nam m] (d7 b m)) gs C ok):ci (SA u [] [.nam b]) (gs++[(true,.nam m,.var)]) (C+20) ((chain m).contains b&&ok):=by
 have hcm:Cs (.nam m)=true:=r9 hm
 refine rI (rO (eq_201 (S:=SA u [] [.nam b]) (a:=.nam m) (b:=.var) (qZ rfl) (fun e=>nomatch e) rfl rfl) (qZ rfl) (C:=C+16) ?_) (eq_123 (k:=17) rfl)
 rw[eq_225]
 by_cases e:m=b
 ·subst e
  exact rO (eq_896 (los:=[]) (ups:=[.nam m]) (qZ rfl) (qZ rfl) hcm (qZ rfl) eq_223) (qZ rfl) (by rw[append_nil];exact eq_410 hb hm r eq_124.symm)
 ·exact rO (eq_897 (los:=[]) (ups:=[.nam b]) (qZ rfl) (qZ rfl) hcm (qZ rfl) (eq_224 (r7 e))) (qZ rfl) (by
   rw[show ([]:List Kd).map (fun x=>((false,x,.nam m):G))=[] from rfl,append_nil]
   exact eq_410 hb hm r (eq_125 e).symm)
theorem eq_411 {m i:Nat}(hb:b∈ao)(hm:m∈ao)(r:(chain m).contains b=true→ci (SA u [.nam m] (d7 b m)) gs C ok):ci (SA u [] [.nam b]) (gs++[(false,.arr m i,.arv)]) (C+22) ((i==1&&(chain m).contains b)&&ok):=by
 refine rO (eq_784 (S:=SA u [] [.nam b]) (m:=m) (i:=i)) (qZ rfl) (C:=C+21) ?_
 rw[eq_225]
 by_cases e:i=1
 ·subst e
  rw[show ((1:Nat)==1)=true from rfl,Bool.true_and]
  exact rO (sH (qZ rfl)) (qZ rfl) (by rw[append_nil];exact eq_899 hb hm r)
 ·rw[eq_62 e,Bool.false_and,Bool.false_and]
  exact rI (rX (eq_368 e)) (Nat.le_add_left 1 _)
end
section
variable {n:Nat}{σ:ak}{s r q:Nat}{K:KP}{F:Int}
theorem eq_900 (n x:Nat)(hx:x∈ao){σ:ak}{K:KP}(k:K (.p (.bool (eT x))) σ):ae an (n+20) 55 [KV,.p (bJ x)] σ K:=by
 simp only[ao,mem_cons,not_mem_nil,or_false] at hx
 have e:∀ b:Bool,eT x=b→K (.p (.bool b)) σ:=fun b h=>h▸k
 rcases hx with rfl | rfl | rfl | rfl | rfl | rfl | rfl
 ·exact Eq.mpr (by kernel_rfl) (e true (by decide +kernel))
 ·exact Eq.mpr (by kernel_rfl) (e true (by decide +kernel))
 ·exact Eq.mpr (by kernel_rfl) (e false (by decide +kernel))
 ·exact Eq.mpr (by kernel_rfl) (e false (by decide +kernel))
 ·exact Eq.mpr (by kernel_rfl) (e true (by decide +kernel))
 ·exact Eq.mpr (by kernel_rfl) (e false (by decide +kernel))
 ·exact Eq.mpr (by kernel_rfl) (e false (by decide +kernel))
theorem eq_901 {x:Nat}{ups:List Kd}(hx:x∈ao)(hn:25≤n)(hq:σ[q]?=some (b0 F))(k:K (.p (.bool (eT x))) σ):ae an n 41 [.ref q,d6 ⟨true,[.nam x],ups,true⟩,.ref s] σ K:=by
 obtain⟨n,rfl⟩:∃ m,n=m+1:=⟨n - 1,by exact rq hn⟩
 refine rg rfl rfl (rk rfl ?_)
 conv=>whnf
 rw[show D.eqv (kD (.nam x)) (kD (.nam x))=true from eq_56 _]
 refine rc (eq_104 hq) ?_
 conv=>whnf
 obtain⟨n,rfl⟩:∃ m,n=m+20:=⟨n - 20,by exact u4 hn rfl⟩
 exact eq_900 n x hx k
theorem eq_902 {x y:Nat}{ups:List Kd}(hxy:y≠x)(hn:25≤n)(hq:σ[q]?=some (b0 F))(k:K (.p (.bool false)) σ):ae an n 41 [.ref q,d6 ⟨true,[.nam x,.nam y],ups,true⟩,.ref s] σ K:=by
 obtain⟨n,rfl⟩:∃ m,n=m+1:=⟨n - 1,by exact rq hn⟩
 refine rg rfl rfl (rk rfl ?_)
 conv=>whnf
 rw[show D.eqv (kD (.nam x)) (kD (.nam x))=true from eq_56 _]
 conv=>whnf
 rw[show D.eqv (kD (.nam y)) (kD (.nam x))=false from eq_111 hxy]
 exact k
theorem eq_412 {x:Sd1}{m:Nat}{b:Bool}(ha:x.asked=true)(hd:x.diag=true)(h:∀ {n:Nat}{σ:ak}{q s:Nat}{F:Int}{K:KP},25≤n→σ[q]?=some (b0 F)→K (.p (.bool b)) σ→ae an n 41 [.ref q,d6 x,.ref s] σ K):iL ⟨m,some x⟩ b:=by
 intro n σ q s r F K hq hs k
 obtain⟨a,los,ups,d⟩:=x
 dsimp only at ha hd
 subst ha hd
 refine rg rfl rfl (rk rfl ?_)
 generalize hm:n+39=m'
 refine rc (sd hs) ?_
 refine rc (eq_29 hs) ?_
 conv=>whnf
 rw[sd hs]
 refine rc (eq_113 hs rfl) ?_
 refine rc (se hq) ?_
 conv=>whnf
 refine h (by exact re (Nat.le_of_eq hm) (by simp +arith only)) hq ?_
 cases b with
 | true=>exact k
 | false=>exact k
theorem eq_903 {x:Nat}{ups:List Kd}(hx:x∈ao):iL (SA 1 [.nam x] ups) (eT x):=eq_412 rfl rfl fun hn hq k=>eq_901 hx hn hq k
theorem eq_904 {x y:Nat}{ups:List Kd}(hxy:y≠x):iL (SA 1 [.nam x,.nam y] ups) false:=eq_412 rfl rfl fun hn hq k=>eq_902 hxy hn hq k
end
theorem eq_72 {ks:List Kd}{r:Option Nat}(h:Cs (.tup ks r)=true)(hd:(Kd.tup ks r).dep≤6):∀ k∈ks,Cs k=true∧k.dep≤5:=fun k hk=>⟨eq_65 (aT h).2 hk,eq_36 (n:=5) hd hk⟩
theorem eq_905 (u:Fin 4):Cs (dn u)=false:=by cases u using tb<;>rfl
theorem eq_226 {c:Kd}{u:Fin 4}(h:Cs c=true):c≠dn u:=fun e=>ff ((eq_905 u).symm.trans (e▸h))
section
variable {S:Sd}
theorem eq_906 {c:Kd}{ls:List Kd}{gs:List G}(h:Cs c=true)(hd:c.dep≤6)(hc:∀ ks r,c≠.tup ks r):ci S (gs++[(false,c,.tup ls none)]) 1 false:=by
 have l:=rQ h (u1 hd rfl)
 cases c with
 | tup ks r=>exact absurd rfl (hc ks r)
 | nam m=>exact rX (ry l rfl rfl rfl rfl (fun e=>nomatch e) (fun e=>nomatch e) (by kernel_rfl))
 | fn m=>exact rX (ry l rfl rfl rfl rfl (fun e=>nomatch e) (fun e=>nomatch e) (by kernel_rfl))
 | typ m=>exact rX (ry l rfl rfl rfl rfl (fun e=>nomatch e) (fun e=>nomatch e) (by kernel_rfl))
 | arr m i=>exact rX (ry l rfl rfl rfl rfl (fun e=>nomatch e) (fun e=>nomatch e) (by kernel_rfl))
 | _=>exact ff h
theorem eq_907 {ks ls:List Kd}{r:Option Nat}{gs:List G}(h:Cs (.tup ks r)=true)(hd:(Kd.tup ks r).dep≤6)(he:Kd.tup ks r≠.tup ls none)(hl:ls.length≤2)(hm:r≠none∨ks.length≠ls.length):ci S (gs++[(false,.tup ks r,.tup ls none)]) 1 false:=by
 have st:=eq_107 (S:=S) (ls:=ls) (t:=none) (rQ h (u1 hd rfl)) (u1 hl rfl) he
 rw[sV (t:=none) (by
  rcases hm with hm | hm
  ·cases r with
   | none=>exact absurd rfl hm
   | some m=>exact oR rfl
  ·rcases Nat.lt_or_gt_of_ne hm with q | q
   ·exact oL (decide_eq_true q)
   ·exact oR (by rw[decide_eq_true q,Bool.or_true];rfl))] at st
 exact rX st
theorem eq_227 {ks ls:List Kd}{gs:List G}{C:Nat}{ok:Bool}(h:Cs (.tup ks none)=true)(hd:(Kd.tup ks none).dep≤6)(he:Kd.tup ks none≠.tup ls none)(hl:ls.length=ks.length)(r:ci S (gs++zg ks ls none) C ok):ci S (gs++[(false,.tup ks none,.tup ls none)]) (C+1) ok:=by
 have k2:ks.length≤2:=Nat.le_of_ble_eq_true (aT (aT h).1).1
 have st:=eq_107 (S:=S) (ls:=ls) (t:=none) (rQ h (u1 hd rfl)) (u6 hl k2 rfl) he
 rw[eq_13 (t:=none) (by rw[hl,decide_eq_false (Nat.lt_irrefl _)];rfl)] at st
 exact rO st (by rw[eq_30];exact u1 k2 rfl) r
end
theorem eq_413 {u:Fin 4}{b:Nat}{p:Kd}{gs:List G}{C:Nat}{ok:Bool}(hb:b∈ao)(h:Cs p=true)(hd:p.dep≤6)(r:bL p (.nam b)=true→ci (SA u [p] [.nam b]) gs C ok):ci (SA u [] [.nam b]) (gs++[(false,p,.var)]) (C+10) (bL p (.nam b)&&ok):=by
 have s1:=eq_122 (u:=u) (los:=[]) (ups:=[.nam b]) (qZ rfl) (qZ rfl) h hd rfl
 cases q:bL p (.nam b) with
 | false=>exact rI (rO s1 (qZ rfl) (rX (eq_221 hb h (u1 hd rfl) q))) (Nat.le_trans (qZ rfl) (Nat.le_add_left 10 C))
 | true=>exact rI (rO s1 (qZ rfl) (eq_37 (eq_222 hb h (u1 hd rfl) q) (r q))) (by rw[Nat.one_mul,Nat.add_comm 5];exact eq_123 (k:=6) rfl)
theorem eq_73 {u:Fin 4}{los ups:List Kd}(h:c7 u=false):ci (SA u los ups) [] 0 true:=eq_220 (eq_898 h)
section
variable {b:Nat}{c:Kd}
theorem sE {u:Fin 4}{ks ls:List Kd}{r:Option Nat}{ok:Bool}(h:Cs (.tup ks r)=true)(hd:(Kd.tup ks r).dep≤6)(hl:ls.length≤2)(hk:Cs (.tup ls none)=false)(hm:r≠none∨ks.length≠ls.length)(e:ok=false):ci (SA u [] [.nam b]) [(false,.tup ks r,.tup ls none)] 100 ok:=by
 rw[e]
 exact rI (eq_907 (gs:=[]) (ls:=ls) h hd (fun e=>by rw[e] at h;exact ff (hk.symm.trans h)) hl hm) (qZ rfl)
theorem sh {u:Fin 4}{ls:List Kd}{ok:Bool}(h:Cs c=true)(hd:c.dep≤6)(hc:∀ ks r,c≠.tup ks r)(e:ok=false):ci (SA u [] [.nam b]) [(false,c,.tup ls none)] 100 ok:=by
 rw[e]
 exact rI (eq_906 (gs:=[]) h hd hc) (qZ rfl)
theorem eq_908 (hb:b∈ao)(h:Cs c=true)(hd:c.dep≤6):ci (SA 0 [] [.nam b]) [(false,c,dn 0)] 100 (kq c 0 b):=by
 cases c with
 | tup ks r=>
  rcases ks with _ | ⟨p,_ | ⟨p',ks⟩⟩
  ·exact sE h hd (qZ rfl) rfl (.inr (Nat.ne_of_beq_eq_false rfl)) (by cases r<;>rfl)
  ·cases r with
   | some t=>exact sE h hd (qZ rfl) rfl (.inl fun e=>nomatch e) rfl
   | none=>
    have p1:=eq_72 h hd p mem_cons_self
    exact eq_16 (rI (eq_227 (gs:=[]) (ls:=[.var]) h hd (eq_226 (u:=0) h) rfl (eq_413 (u:=0) (gs:=[]) hb p1.1 (u1 p1.2 rfl) fun J=>eq_73 (los:=[p]) (ups:=[.nam b]) rfl)) (qZ rfl)) (Bool.and_true _)
  ·exact sE h hd (qZ rfl) rfl (.inr fun e=>nomatch e) (by cases r<;>rfl)
 | nam _=>exact sh h hd (fun J J e=>nomatch e) rfl
 | fn _=>exact sh h hd (fun J J e=>nomatch e) rfl
 | typ _=>exact sh h hd (fun J J e=>nomatch e) rfl
 | arr _ _=>exact sh h hd (fun J J e=>nomatch e) rfl
 | _=>exact ff h
theorem eq_909 {p p':Kd}{d:Bool}:(bL p' (.nam b)&&((decide (p=p')&&bL p (.nam b))&&d))=((decide (p=p')&&bL p (.nam b))&&d):=by
 by_cases e:p=p'
 ·subst e
  cases bL p (.nam b)<;>cases d<;>cases decide (p=p)<;>rfl
 ·rw[decide_eq_false e]
  exact Bool.and_false _
theorem eq_910 (hb:b∈ao)(h:Cs c=true)(hd:c.dep≤6):ci (SA 1 [] [.nam b]) [(false,c,dn 1)] 100 (kq c 1 b):=by
 cases c with
 | tup ks r=>
  rcases ks with _ | ⟨p,_ | ⟨p',_ | ⟨p'',ks⟩⟩⟩
  ·exact sE h hd (qZ rfl) rfl (.inr (Nat.ne_of_beq_eq_false rfl)) (by cases r<;>rfl)
  ·exact sE h hd (qZ rfl) rfl (.inr (Nat.ne_of_beq_eq_false rfl)) (by cases r<;>rfl)
  ·cases r with
   | some t=>exact sE h hd (qZ rfl) rfl (.inl fun e=>nomatch e) rfl
   | none=>
    have p1:=eq_72 h hd p mem_cons_self
    have p2:=eq_72 h hd p' (mem_cons_of_mem _ mem_cons_self)
    have d1:p.dep≤6:=u1 p1.2 rfl
    refine eq_16 (rI (eq_227 (gs:=[]) (ls:=[.var,.var]) h hd (eq_226 (u:=1) h) rfl (eq_413 (u:=1) (gs:=[(false,p,.var)]) (p:=p') (C:=20) (ok:=kq (.tup [p,p'] none) 1 b) hb p2.1 (u1 p2.2 rfl) fun q=>?_)) (qZ rfl)) eq_909
    obtain⟨x,rfl,hx⟩:=eq_71 q
    by_cases e:p=.nam x
    ·subst e
     refine eq_16 (rI (rO (gs:=[]) (eq_408 (u:=1) (los:=[.nam x]) (ups:=[.nam b]) (c:=.nam x) (qZ rfl) (qZ rfl) p1.1 d1 eq_223) (qZ rfl) (eq_220 (eq_903 (rn p2.1)))) (qZ rfl)) ?_
     show _=((decide (Kd.nam x=.nam x)&&bL (.nam x) (.nam b))&&eT x)
     rw[decide_eq_true rfl,q]
     rfl
    ·have s:=eq_122 (u:=1) (los:=[.nam x]) (ups:=[.nam b]) (c:=p) (qZ rfl) (qZ rfl) p1.1 d1 (eq_224 e)
     have hu:kq (.tup [p,.nam x] none) 1 b=false:=by
      show ((decide (p=.nam x)&&_)&&_)=false
      rw[decide_eq_false e]
      rfl
     rw[hu]
     cases q2:bL p (.nam b) with
     | false=>exact rI (rO (gs:=[]) s (qZ rfl) (rX (gs:=[]) (eq_221 hb p1.1 (u1 d1 rfl) q2))) (qZ rfl)
     | true=>
      obtain⟨y,rfl,hy⟩:=eq_71 q2
      exact rI (rO (gs:=[]) s (qZ rfl) (eq_37 (gs:=[]) (eq_222 (S:=SA 1 [.nam x,.nam y] [.nam b]) hb p1.1 (u1 d1 rfl) q2) (eq_220 (eq_904 fun e'=>e (congrArg _ e'))))) (qZ rfl)
  ·exact sE h hd (qZ rfl) rfl (.inr fun e=>nomatch e) (by cases r<;>rfl)
 | nam _=>exact sh h hd (fun J J e=>nomatch e) rfl
 | fn _=>exact sh h hd (fun J J e=>nomatch e) rfl
 | typ _=>exact sh h hd (fun J J e=>nomatch e) rfl
 | arr _ _=>exact sh h hd (fun J J e=>nomatch e) rfl
 | _=>exact ff h
theorem eq_414 {S:Sd}{gs:List G}(h:Cs c=true)(hd:c.dep≤6)(hc:∀ m i,c≠.arr m i):ci S (gs++[(false,c,.arv)]) 1 false:=by
 have l:=rQ h (u1 hd rfl)
 cases c with
 | arr m i=>exact absurd rfl (hc m i)
 | nam m=>exact rX (eq_781 (rn h))
 | fn m=>exact rX (ry l rfl rfl rfl rfl (fun e=>nomatch e) (fun e=>nomatch e) (by kernel_rfl))
 | typ m=>exact rX (ry l rfl rfl rfl rfl (fun e=>nomatch e) (fun e=>nomatch e) (by kernel_rfl))
 | tup ks r=>exact rX (ry l rfl rfl rfl rfl (fun e=>nomatch e) (fun e=>nomatch e) (by kernel_rfl))
 | _=>exact ff h
theorem eq_126 {u:Fin 4}{ok:Bool}(h:Cs c=true)(hd:c.dep≤6)(hc:∀ m i,c≠.arr m i)(e:ok=false):ci (SA u [] [.nam b]) [(false,c,.arv)] 100 ok:=by
 rw[e]
 exact rI (eq_414 (gs:=[]) h hd hc) (qZ rfl)
theorem eq_911 (hb:b∈ao)(h:Cs c=true)(hd:c.dep≤6):ci (SA 2 [] [.nam b]) [(false,c,dn 2)] 100 (kq c 2 b):=by
 cases c with
 | arr m i=>exact eq_16 (rI (eq_411 (u:=2) (gs:=[]) (i:=i) hb (rn h) fun J=>eq_73 (los:=[.nam m]) (ups:=d7 b m) rfl) (qZ rfl)) (Bool.and_true _)
 | nam _=>exact eq_126 h hd (fun J J e=>nomatch e) rfl
 | fn _=>exact eq_126 h hd (fun J J e=>nomatch e) rfl
 | typ _=>exact eq_126 h hd (fun J J e=>nomatch e) rfl
 | tup _ _=>exact eq_126 h hd (fun J J e=>nomatch e) rfl
 | _=>exact ff h
theorem eq_228 {S:Sd}{p:Kd}(hb:b∈ao)(h:Cs p=true)(hd:p.dep≤6):GB S (false,p,.nam b) 1 5 (bL p (.nam b)):=eq_112 1 (L:=.nam b) (qZ rfl) h (u1 hd rfl) (r9 hb)
theorem eq_912 {p:Kd}{m:Nat}(hb:b∈ao)(hm:m∈ao)(h:Cs p=true)(d1:p.dep≤6)(cb:(chain m).contains b=true):ci (SA 3 [.nam m] (d7 b m)) [(false,p,.var)] 20 (bL p (.nam b)&&bL p (.nam m)):=by
 have hul:(d7 b m).length≤300:=u1 eq_409 rfl
 by_cases e:p=.nam m
 ·subst e
  exact eq_16 (rI (rO (gs:=[]) (eq_408 (u:=3) (los:=[.nam m]) (ups:=d7 b m) (c:=.nam m) (qZ rfl) hul h d1 eq_223) (qZ rfl) (eq_73 rfl)) (qZ rfl)) (aI cb (eq_66 m hm)).symm
 ·refine rI (rO (gs:=[]) (eq_122 (u:=3) (los:=[.nam m]) (ups:=d7 b m) (c:=p) (qZ rfl) hul h d1 (eq_224 e)) (by rw[length_map];exact u1 eq_409 rfl) (C:=15) ?_) (qZ rfl)
  by_cases e2:m=b
  ·subst e2
   rw[eq_124]
   exact eq_16 (rI (eq_37 (gs:=[]) (eq_228 hb h d1) (eq_73 (u:=3) (los:=[.nam m]++[p]) (ups:=[.nam m]) rfl)) (qZ rfl)) ((Bool.and_true _).trans (Bool.and_self _).symm)
  ·rw[eq_125 e2]
   exact eq_16 (rI (eq_37 (gs:=[]) (sD (eq_228 hb h d1) (eq_228 hm h d1)) (eq_73 (u:=3) (los:=[.nam m]++[p]) (ups:=[.nam b,.nam m]) rfl)) (qZ rfl)) (Bool.and_true _)
theorem eq_913 (hb:b∈ao)(h:Cs c=true)(hd:c.dep≤6):ci (SA 3 [] [.nam b]) [(false,c,dn 3)] 100 (kq c 3 b):=by
 cases c with
 | tup ks r=>
  rcases ks with _ | ⟨p,_ | ⟨p',_ | ⟨p'',ks⟩⟩⟩
  ·exact sE h hd (qZ rfl) rfl (.inr (Nat.ne_of_beq_eq_false rfl)) (by cases r<;>rfl)
  ·exact sE h hd (qZ rfl) rfl (.inr (Nat.ne_of_beq_eq_false rfl)) (by cases r<;>rfl)
  ·cases r with
   | some t=>exact sE h hd (qZ rfl) rfl (.inl fun e=>nomatch e) (by clear h hd;cases p'<;>rfl)
   | none=>
    have p1:=eq_72 h hd p mem_cons_self
    have p2:=eq_72 h hd p' (mem_cons_of_mem _ mem_cons_self)
    have no:(∀ m i,p'≠.arr m i)→kq (.tup [p,p'] none) 3 b=false→ci (SA 3 [] [.nam b]) ([(false,p,.var)]++[(false,p',.arv)]) 99 (kq (.tup [p,p'] none) 3 b):=fun hc e=>by
     rw[e]
     exact rI (eq_414 p2.1 (u1 p2.2 rfl) hc) (qZ rfl)
    refine eq_227 (gs:=[]) (ls:=[.var,.arv]) h hd (eq_226 (u:=3) h) rfl (C:=99) ?_
    clear h hd
    cases p' with
    | arr m i=>exact rI (eq_411 (u:=3) (gs:=[(false,p,.var)]) (i:=i) (C:=20) (ok:=bL p (.nam b)&&bL p (.nam m)) hb (rn p2.1) (eq_912 hb (rn p2.1) p1.1 (u1 p1.2 rfl))) (qZ rfl)
    | _=>exact no (fun J J e=>nomatch e) rfl
  ·exact sE h hd (qZ rfl) rfl (.inr fun e=>nomatch e) (by clear h hd;cases p'<;>cases r<;>rfl)
 | nam _=>exact sh h hd (fun J J e=>nomatch e) rfl
 | fn _=>exact sh h hd (fun J J e=>nomatch e) rfl
 | typ _=>exact sh h hd (fun J J e=>nomatch e) rfl
 | arr _ _=>exact sh h hd (fun J J e=>nomatch e) rfl
 | _=>exact ff h
theorem eq_914 {u:Fin 4}(hb:b∈ao)(h:Cs c=true)(hd:c.dep≤6):eS c (.all u b) (kq c u b):=by
 refine eq_895 (rO (gs:=[]) (eq_868 (u:=u) (c:=c) (rN b hb) (rQ h (u1 hd rfl))) (qZ rfl) (C:=100) ?_) (qZ rfl)
 cases u using tb with
 | h0=>exact eq_908 hb h hd
 | h1=>exact eq_910 hb h hd
 | h2=>exact eq_911 hb h hd
 | h3=>exact eq_913 hb h hd
end
noncomputable def oI (a:Kd)(u:Fin 4) (b:Nat):Bool:=(cs a).all fun c=>kq c u b
theorem eq_915 {n:Nat}{σ:ak}{K:KP}{u:Fin 4}{b:Nat}{a:Kd}(hn:65≤n)(hb:b∈ao)(ha:Ok a)(hd:a.dep≤6)(k:K (.p (.bool (oI a u b))) σ):ae an n 46 [KV,.p (kD a),.p (kD (.all u b))] σ K:=
 eq_34 (ok:=fun c=>kq c u b) hn (eq_219 ha.kl).symm (u1 hd rfl) (u1 (eq_211 a ha.kl) rfl) ha.ck (fun c hc=>eq_914 hb (sI a ha.kl c hc).1 (Nat.le_trans (sI a ha.kl c hc).2 hd)) k
theorem eq_916:∀ m∈ao,∀ o∈ao,∀ p∈ao,(chain m).contains o=true→(chain o).contains p=true→(chain m).contains p=true:=by decide +kernel
theorem eq_127 {m o p:Nat}(hm:ao.contains m=true)(ho:ao.contains o=true)(hp:ao.contains p=true)(h1:(chain m).contains o=true)(h2:(chain o).contains p=true):(chain m).contains p=true:=
 eq_916 m (rn hm) o (rn ho) p (rn hp) h1 h2
def Tl (r:Option Nat):Prop:=∀ m,r=some m→ao.contains m=true
theorem eq_917 {r s t:Option Nat}(hr:Tl r)(hs:Tl s)(ht:Tl t)(h1:ln r s=true)(h2:ln s t=true):ln r t=true:=by
 cases r with
 | none=>rfl
 | some m=>
  cases s with
  | none=>exact ff h1
  | some o=>
   cases t with
   | none=>exact ff h2
   | some p=>exact eq_127 (hr m rfl) (hs o rfl) (ht p rfl) h1 h2
theorem eq_415 {k:Kd}{s:Option Nat}(h:l6 s k=true):∃ m o,k=.nam m∧s=some o∧(chain m).contains o=true:=by
 cases k with
 | nam m=>cases s with
  | none=>exact ff h
  | some o=>exact⟨m,o,rfl,rfl,h⟩
 | _=>exact ff h
theorem eq_229 {c:Kd}{o:Nat}(h:bL c (.nam o)=true):∃ m,c=.nam m∧(chain m).contains o=true:=by
 cases c with
 | nam m=>exact⟨m,rfl,h⟩
 | _=>exact ff h
theorem eq_74 {c:Kd}{ls:List Kd}{t:Option Nat}(h:bL c (.tup ls t)=true):∃ ks r,c=.tup ks r∧clet ks ls t=true∧ln r t=true:=by
 cases c with
 | tup ks r=>exact⟨ks,r,rfl,aT h⟩
 | _=>exact ff h
theorem eq_918 {c:Kd}{o:Nat}(h:bL c (.fn o)=true):c=.fn o:=by
 cases c with
 | fn m=>exact congrArg Kd.fn (eq_of_beq h)
 | _=>exact ff h
theorem eq_919 {c:Kd}{o:Nat}(h:bL c (.typ o)=true):c=.typ o:=by
 cases c with
 | typ m=>exact congrArg Kd.typ (eq_of_beq h)
 | _=>exact ff h
theorem eq_230 {c:Kd}{o j:Nat}(h:bL c (.arr o j)=true):c=.arr o j:=by
 cases c with
 | arr m i=>exact congr (congrArg Kd.arr (eq_of_beq (aT h).1)) (eq_of_beq (aT h).2)
 | _=>exact ff h
theorem eq_920 {t:Option Nat}{ks:List Kd}(h:ks.all (l6 t)=true):∀ k∈ks,l6 t k=true:=List.all_eq_true.mp h
theorem eq_921 {k:Kd}{s t:Option Nat}(hk:Cs k=true)(hs:Tl s)(ht:Tl t)(h1:l6 s k=true)(h2:ln s t=true):l6 t k=true:=by
 obtain⟨m,o,rfl,rfl,h1⟩:=eq_415 h1
 cases t with
 | none=>exact ff h2
 | some p=>exact eq_127 hk (hs o rfl) (ht p rfl) h1 h2
theorem eq_922 {k k':Kd}{t:Option Nat}(hk:Cs k=true)(hk':Cs k'=true)(ht:Tl t)(h1:bL k k'=true)(h2:l6 t k'=true):l6 t k=true:=by
 obtain⟨o,p,rfl,rfl,h2⟩:=eq_415 h2
 obtain⟨m,rfl,h1⟩:=eq_229 h1
 exact eq_127 hk hk' (ht p rfl) h1 h2
theorem eq_923 {t r':Option Nat}(hr':Tl r')(ht:Tl t)(h2:ln r' t=true):∀ ks' {ks:List Kd},Css ks=true→Css ks'=true→clet ks ks' r'=true→ks'.all (l6 t)=true→ks.all (l6 t)=true:=fun ks'=>by
 induction ks' with
 | nil=>exact fun h J h1 J=>List.all_eq_true.mpr fun k hk=>eq_921 (eq_65 h hk) hr' ht (eq_920 h1 k hk) h2
 | cons k' ks' ih=>
  intro ks h h' h1 h3
  cases ks with
  | nil=>rfl
  | cons k ks=>exact aI (eq_922 (aT h).1 (aT h').1 ht (aT h1).1 (aT h3).1) (ih (aT h).2 (aT h').2 (aT h1).2 (aT h3).2)
theorem eq_231 {ks:List Kd}{r:Option Nat}(h:Cs (.tup ks r)=true):Tl r:=fun m e=>by subst e;exact(aT (aT h).1).2
theorem eq_416 {ks:List Kd}{r:Option Nat}(h:Kl (.tup ks r)=true):Tl r:=fun m e=>by subst e;exact(aT (aT h).1).2
def qI (l:Kd):Prop:=∀ {c d:Kd},Cs c=true→Cs d=true→Kl l=true→bL c d=true→bL d l=true→bL c l=true
theorem eq_38 (l:Kd):qI l:=by
 refine Kd.rec (motive_1:=qI) (motive_2:=fun ls=>(∀ {c d:Kd},Cs c=true→Cs d=true→Kls ls=true→bL c d=true→clea d ls=true→clea c ls=true)∧
   ∀ {ks ks':List Kd}{r' t:Option Nat},Tl r'→Tl t→Css ks=true→Css ks'=true→Kls ls=true→clet ks ks' r'=true→clet ks' ls t=true→ln r' t=true→clet ks ls t=true)
  (fun J J h=>ff h) (fun o {c d} hc hd hl h1 h2=>?_) (fun J {_ _} J J h=>ff h) (fun o {c d} J J J h1 h2=>eq_918 h2▸h1) (fun o {c d} J J J h1 h2=>eq_919 h2▸h1) (fun o j {c d} J J J h1 h2=>eq_230 h2▸h1)
  (fun ls t ih {c d} hc hd hl h1 h2=>?_) (fun ls ih {c d} hc hd hl h1 h2=>ih.1 hc hd (aT hl).2 h1 h2) (fun J J h=>ff h) (fun J J h=>ff h) (fun J J {_ _} J J h=>ff h)
  ⟨fun J J J J h=>ff h,fun hr ht hk hk' J h1 h2 h3=>eq_923 hr ht h3 _ hk hk' h1 h2⟩ (fun l ls ih ihs=>⟨fun hc hd hl h1 h2=>?_,fun {ks ks' r' t} hr ht hk hk' hl h1 h2 h3=>?_⟩) l
 ·obtain⟨m',rfl,h2⟩:=eq_229 h2
  obtain⟨m,rfl,h1⟩:=eq_229 h1
  exact eq_127 hc hd hl h1 h2
 ·obtain⟨ks',r',rfl,h2,h3⟩:=eq_74 h2
  obtain⟨ks,r,rfl,h1,h4⟩:=eq_74 h1
  exact aI (ih.2 (eq_231 hd) (eq_416 hl) (aT hc).2 (aT hd).2 (aT hl).2 h1 h2 h3) (eq_917 (eq_231 hc) (eq_231 hd) (eq_416 hl) h4 h3)
 ·exact(oT h2).elim (fun h=>oL (ih hc hd (aT hl).1 h1 h)) fun h=>oR (ihs.1 hc hd (aT hl).2 h1 h)
 ·cases ks' with
  | nil=>exact ff h2
  | cons k' ks'=>cases ks with
   | nil=>exact ff h1
   | cons k ks=>exact aI (ih (aT hk).1 (aT hk').1 (aT hl).1 (aT h1).1 (aT h2).1) (ihs.2 hr ht (aT hk).2 (aT hk').2 (aT hl).2 (aT h1).2 (aT h2).2 h3)
def qi (k:Kd):Prop:=∀ {c:Kd},Cs c=true→bL c k=true→∃ d∈cs k,bL c d=true
theorem sW {k:Kd}(h:cs k=[k]):qi k:=fun {c} J hc=>⟨k,h▸mem_singleton.mpr rfl,hc⟩
theorem eq_417 (k:Kd):qi k:=by
 refine Kd.rec (motive_1:=qi) (motive_2:=fun ls=>(∀ {c:Kd},Cs c=true→clea c ls=true→∃ d∈css ls,bL c d=true)∧∀ {ks:List Kd}{t:Option Nat},Css ks=true→clet ks ls t=true→∃ row∈prods ls,clet ks row t=true)
  (sW rfl) (fun J=>sW rfl) (fun J=>sW rfl) (fun J=>sW rfl) (fun J=>sW rfl) (fun J J=>sW rfl) (fun ls t ih {c} hc h=>?_) (fun ls ih {c} hc h=>ih.1 hc h) (sW rfl) (sW rfl) (fun J J=>sW rfl)
  ⟨fun J h=>ff h,fun J h=>⟨[],mem_singleton.mpr rfl,h⟩⟩ (fun l ls ih ihs=>⟨fun {c} hc h=>?_,fun {ks t} hk h=>?_⟩) k
 ·obtain⟨ks,r,rfl,h,h2⟩:=eq_74 h
  obtain⟨row,hr,h1⟩:=ih.2 (aT hc).2 h
  exact⟨.tup row t,List.mem_map.mpr ⟨row,hr,rfl⟩,aI h1 h2⟩
 ·rcases oT h with h | h
  ·obtain⟨d,hd,h1⟩:=ih hc h
   exact⟨d,mem_append_left _ hd,h1⟩
  ·obtain⟨d,hd,h1⟩:=ihs.1 hc h
   exact⟨d,mem_append_right _ hd,h1⟩
 ·cases ks with
  | nil=>exact ff h
  | cons k ks=>
   obtain⟨d,hd,h1⟩:=ih (aT hk).1 (aT h).1
   obtain⟨row,hr,h2⟩:=ihs.2 (aT hk).2 (aT h).2
   exact⟨d::row,List.mem_flatMap.mpr ⟨d,hd,List.mem_map.mpr ⟨row,hr,rfl⟩⟩,aI h1 h2⟩
theorem eq_232 {c k l:Kd}(hc:Cs c=true)(hk:Kl k=true)(hl:Kl l=true)(h1:bL c k=true)(h2:le k l=true):bL c l=true:=by
 obtain⟨d,hd,h3⟩:=eq_417 k hc h1
 exact eq_38 l hc (sI k hk d hd).1 hl h3 (List.all_eq_true.mp h2 d hd)
theorem le_trans {a k l:Kd}(ha:Kl a=true)(hk:Kl k=true)(hl:Kl l=true)(h1:le a k=true)(h2:le k l=true):le a l=true:=
 List.all_eq_true.mpr fun c hc=>eq_232 (sI a ha c hc).1 hk hl (List.all_eq_true.mp h1 c hc) h2
theorem eq_418:∀ y∈ao,∀ x∈ao,eT x=true→(chain y).contains x=true→y=x:=by decide +kernel
theorem eq_924 {k:Kd}:l6 none k=false:=by cases k<;>rfl
theorem eq_419 {ks:List Kd}(h:clet ks [] none=true):ks=[]:=by
 cases ks with
 | nil=>rfl
 | cons k ks=>exact ff (eq_924.symm.trans (aT h).1)
theorem eq_420 {r:Option Nat}(h:ln r none=true):r=none:=by
 cases r with
 | none=>rfl
 | some m=>exact ff h
theorem eq_233 {ks ls:List Kd}{l:Kd}{t:Option Nat}(h:clet ks (l::ls) t=true):∃ k ks',ks=k::ks'∧bL k l=true∧clet ks' ls t=true:=by
 cases ks with
 | nil=>exact ff h
 | cons k ks=>exact⟨k,ks,rfl,aT h⟩
theorem eq_925 {c q:Kd}(h:bL c (.tup [q] none)=true):∃ p,c=.tup [p] none∧bL p q=true:=by
 obtain⟨ks,r,rfl,h1,h2⟩:=eq_74 h
 obtain⟨p,ks,rfl,h3,h1⟩:=eq_233 h1
 rw[eq_419 h1,eq_420 h2]
 exact⟨p,rfl,h3⟩
theorem eq_421 {c q q':Kd}(h:bL c (.tup [q,q'] none)=true):∃ p p',c=.tup [p,p'] none∧bL p q=true∧bL p' q'=true:=by
 obtain⟨ks,r,rfl,h1,h2⟩:=eq_74 h
 obtain⟨p,ks,rfl,h3,h1⟩:=eq_233 h1
 obtain⟨p',ks,rfl,h4,h1⟩:=eq_233 h1
 rw[eq_419 h1,eq_420 h2]
 exact⟨p,p',rfl,h3,h4⟩
theorem eq_422 {p:Kd}(h:Cs (.tup [p] none)=true):Cs p=true:=(aT h).1
theorem tm {p p':Kd}(h:Cs (.tup [p,p'] none)=true):Cs p=true∧Cs p'=true:=⟨(aT h).1,(aT (aT h).2).1⟩
theorem eq_423 {c:Kd}{b:Nat}(h:kq c 0 b=true):∃ p,c=.tup [p] none∧bL p (.nam b)=true:=by
 cases c with
 | tup ks r=>
  rcases ks with _ | ⟨p,_ | ⟨p',ks⟩⟩<;>cases r<;>first | exact ff h | exact⟨p,rfl,h⟩
 | _=>exact ff h
theorem eq_424 {c:Kd}{b:Nat}(h:kq c 1 b=true):∃ x,c=.tup [.nam x,.nam x] none∧bL (.nam x) (.nam b)=true∧eT x=true:=by
 cases c with
 | tup ks r=>
  rcases ks with _ | ⟨p,_ | ⟨p',_ | ⟨p'',ks⟩⟩⟩<;>cases r<;>first | exact ff h | skip
  obtain⟨x,rfl,hx⟩:=eq_71 (aT (aT h).1).2
  cases of_decide_eq_true (aT (aT h).1).1
  exact⟨x,rfl,hx,(aT h).2⟩
 | _=>exact ff h
theorem eq_926 {c:Kd}{b:Nat}(h:kq c 2 b=true):∃ m i,c=.arr m i:=by
 cases c with
 | arr m i=>exact⟨m,i,rfl⟩
 | _=>exact ff h
theorem eq_927 {c:Kd}{b:Nat}(h:kq c 3 b=true):∃ p m i,c=.tup [p,.arr m i] none∧(i==1&&(chain m).contains b)=true∧bL p (.nam b)=true∧bL p (.nam m)=true:=by
 cases c with
 | tup ks r=>
  rcases ks with _ | ⟨p,_ | ⟨p',_ | ⟨p'',ks⟩⟩⟩
  ·cases r<;>exact ff h
  ·cases r<;>exact ff h
  ·cases p' with
   | arr m i=>cases r with
    | none=>exact⟨p,m,i,rfl,(aT h).1,aT (aT h).2⟩
    | some t=>exact ff h
   | _=>cases r<;>exact ff h
  ·cases p'<;>cases r<;>exact ff h
 | _=>exact ff h
theorem eq_928 {c d:Kd}{u:Fin 4}{b:Nat}(hb:b∈ao)(hc:Cs c=true)(hd:Cs d=true)(h1:bL c d=true)(h2:kq d u b=true):kq c u b=true:=by
 cases u using tb with
 | h0=>
  obtain⟨q,rfl,h2⟩:=eq_423 h2
  obtain⟨p,rfl,h3⟩:=eq_925 h1
  exact eq_38 (.nam b) (eq_422 hc) (eq_422 hd) (r9 hb) h3 h2
 | h1=>
  obtain⟨x,rfl,h3,h4⟩:=eq_424 h2
  obtain⟨p,p',rfl,h5,h6⟩:=eq_421 h1
  obtain⟨y,rfl,hy⟩:=eq_71 h5
  obtain⟨y',rfl,hy'⟩:=eq_71 h6
  have hxb:=rn (tm hd).1
  rw[eq_418 y (rn (tm hc).1) x hxb h4 hy,eq_418 y' (rn (tm hc).2) x hxb h4 hy']
  exact h2
 | h2=>
  obtain⟨m,i,rfl⟩:=eq_926 h2
  rw[eq_230 h1]
  exact h2
 | h3=>
  obtain⟨q,m,i,rfl,h3,h4,h5⟩:=eq_927 h2
  obtain⟨p,p',rfl,h6,h7⟩:=eq_421 h1
  rw[eq_230 h7] at hc ⊢
  exact aI h3 (aI (eq_38 (.nam b) (tm hc).1 (tm hd).1 (r9 hb) h6 h4) (eq_38 (.nam m) (tm hc).1 (tm hd).1 (r9 (rn (tm hc).2)) h6 h5))
theorem eq_929 {a k:Kd}{u:Fin 4}{b:Nat}(hb:b∈ao)(ha:Kl a=true)(hk:Kl k=true)(h1:le a k=true)(h2:oI k u b=true):oI a u b=true:=
 List.all_eq_true.mpr fun c hc=>by
  have hcs:=(sI a ha c hc).1
  obtain⟨d,hd,h3⟩:=eq_417 k hcs (List.all_eq_true.mp h1 c hc)
  exact eq_928 hb hcs (sI k hk d hd).1 h3 (List.all_eq_true.mp h2 d hd)
theorem eq_425 {b:Nat}(hb:b∈ao):Cs (.tup [.nam b] none)=true:=aI (r9 hb) rfl
theorem eq_426 {b:Nat}(hb:b∈ao):Cs (.tup [.nam b,.nam b] none)=true:=aI (r9 hb) (aI (r9 hb) rfl)
theorem eq_930 {k l:Kd}{u:Fin 4}{b:Nat}(hb:b∈ao)(hk:Kl k=true)(hl:Kl l=true)(h1:mO u b k=true)(h2:le k l=true):mO u b l=true:=by
 cases u using tb with
 | h0=>exact eq_232 (eq_425 hb) hk hl h1 h2
 | h1=>exact eq_232 (eq_426 hb) hk hl h1 h2
 | h2=>exact ff h1
 | h3=>exact ff h1
theorem eq_931 {a l:Kd}{u:Fin 4}{b:Nat}(hb:b∈ao)(ha:Kl a=true)(hl:Kl l=true)(h1:oI a u b=true)(h2:mO u b l=true):le a l=true:=
 List.all_eq_true.mpr fun c hc=>by
  have hcs:=(sI a ha c hc).1
  have h1:=List.all_eq_true.mp h1 c hc
  cases u using tb with
  | h0=>
   obtain⟨p,rfl,h1⟩:=eq_423 h1
   exact eq_38 l hcs (eq_425 hb) hl (aI (aI h1 rfl) rfl) h2
  | h1=>
   obtain⟨x,rfl,h1,_⟩:=eq_424 h1
   exact eq_38 l hcs (eq_426 hb) hl (aI (aI h1 (aI h1 rfl)) rfl) h2
  | h2=>exact ff h2
  | h3=>exact ff h2
end Mine
end
section
set_option genSizeOf false
set_option genInjectivity false
namespace Mine
open PySem
noncomputable def aX:Kd→List Kd
 | .uni ls=>ls
 | k=>[k]
noncomputable def gK (seen:List Kd):List Kd→List Kd
 | []=>seen
 | x::xs=>bif seen.contains x then gK seen xs else gK (seen++[x]) xs
noncomputable def fC (a b:Kd):List Kd:=gK [] (aX a++aX b)
inductive UnOf (a b:Kd):Kd→Prop
 | one {x:Kd}:fC a b=[x]→UnOf a b x
 | many {zs:List Kd}:zs.Perm (fC a b)→2≤(fC a b).length→UnOf a b (.uni zs)
theorem eq_932 {y:Kd}(xs:List Kd):∀ {seen:List Kd},y∈gK seen xs↔y∈seen∨y∈xs:=by
 induction xs with
 | nil=>exact⟨.inl,fun h=>h.elim id fun h=>absurd h not_mem_nil⟩
 | cons x xs ih=>
  intro seen
  show y∈(bif seen.contains x then gK seen xs else gK (seen++[x]) xs)↔_
  cases h:seen.contains x with
  | true=>exact ih.trans ⟨fun q=>q.elim .inl fun q=>.inr (mem_cons_of_mem _ q),fun q=>q.elim .inl fun q=>(mem_cons.mp q).elim (fun e=>.inl (e▸List.mem_of_elem_eq_true h)) .inr⟩
  | false=>exact ih.trans ⟨fun q=>q.elim (fun q=>(mem_append.mp q).elim .inl fun q=>.inr (mem_singleton.mp q▸mem_cons_self)) fun q=>.inr (mem_cons_of_mem _ q),fun q=>q.elim (fun q=>.inl (mem_append_left _ q)) fun q=>(mem_cons.mp q).elim (fun e=>.inl (e▸mem_append_right _ mem_cons_self)) .inr⟩
theorem eq_75 {a b y:Kd}:y∈fC a b↔y∈aX a∨y∈aX b:=
 (eq_932 _).trans ⟨fun h=>h.elim (fun h=>absurd h not_mem_nil) mem_append.mp,fun h=>.inr (mem_append.mpr h)⟩
theorem eq_427 {k:Kd}(h:fE k=false):aX k=[k]:=by cases k<;>first | rfl | exact absurd h (fun e=>nomatch e)
theorem eq_128 {k c:Kd}:le k c=(aX k).all fun x=>le x c:=by
 cases h:fE k with
 | false=>rw[eq_427 h];exact(Bool.and_true _).symm
 | true=>
  cases k with
  | uni ls=>
   show (css ls).all _=_
   rw[eq_733,List.all_flatMap]
   rfl
  | _=>exact absurd h (fun e=>nomatch e)
theorem eq_933 {a b k:Kd}(h:UnOf a b k)(hf:∀ x∈fC a b,fE x=false)(y:Kd):y∈aX k↔y∈fC a b:=by
 cases h with
 | one e=>rw[eq_427 (hf k (by rw[e];exact mem_cons_self)),e]
 | many hp hl=>exact hp.mem_iff
theorem eq_934 {α:Type}{p:α→Bool}{xs ys:List α}(h:∀ y,y∈xs↔y∈ys):xs.all p=ys.all p:=by
 rw[Bool.eq_iff_iff,List.all_eq_true,List.all_eq_true]
 exact⟨fun h' x hx=>h' x ((h x).mpr hx),fun h' x hx=>h' x ((h x).mp hx)⟩
theorem eq_935 {a b k c:Kd}(h:UnOf a b k)(hf:∀ x∈fC a b,fE x=false):le k c=(le a c&&le b c):=by
 rw[eq_128 (k:=k),eq_128 (k:=a),eq_128 (k:=b),← List.all_append]
 refine eq_934 fun y=>?_
 rw[eq_933 h hf y,eq_75,mem_append]
theorem eq_936 {zs:List Kd}{z c:Kd}(hz:z∈zs)(h:le c z=true):le c (.uni zs)=true:=
 List.all_eq_true.mpr fun d hd=>eq_209.trans (List.any_eq_true.mpr ⟨z,hz,List.all_eq_true.mp h d hd⟩)
theorem eq_428 {a b k:Kd}(h:UnOf a b k)(hf:∀ x∈fC a b,fE x=false)(hk:Kls (fC a b)=true):le a k=true:=by
 have hm:∀ x∈aX a,le x k=true:=by
  intro x hx
  have hx':x∈fC a b:=eq_75.mpr (.inl hx)
  have hs:=eq_210 (eq_35 hk hx')
  cases h with
  | one e=>
   rw[e] at hx'
   rw[mem_singleton.mp hx'] at hs ⊢
   exact hs
  | many hp hl=>exact eq_936 (hp.mem_iff.mpr hx') hs
 rw[eq_128,List.all_eq_true]
 exact hm
end Mine
end
section
namespace Mine
open PySem
def GT (L t:Nat):Prop:=((bx t).all (·<0x110000))=true∧(bx t).length≤L
theorem GT.cat {L M a b:Nat}(ha:GT L a)(hb:GT M b):GT (L+M) (dg a b):=by
 have e:((bx a++bx b).all (·<0x110000))=true:=by rw[List.all_append,ha.1,hb.1];rfl
 have d:bx (dg a b)=bx a++bx b:=tI e
 refine⟨by rw[d];exact e,?_⟩
 rw[d,length_append]
 exact Nat.add_le_add ha.2 hb.2
theorem GT.mono {L M t:Nat}(h:GT L t)(hM:L≤M):GT M t:=⟨h.1,Nat.le_trans h.2 hM⟩
def ot (M:Nat)(ts:List Nat):Prop:=(∀ t∈ts,((bx t).all (·<0x110000))=true)∧dZ ba ts≤M
theorem eq_234:GT 2 ba:=⟨by decide +kernel,by decide +kernel⟩
theorem eq_235 {ts:List Nat}:∀ {M:Nat},ot M ts→((dq ba ts).all (·<0x110000))=true∧(dq ba ts).length≤M:=by
 induction ts with
 | nil=>exact fun J=>⟨rfl,Nat.zero_le _⟩
 | cons t ts ih=>
  intro M h
  cases ts with
  | nil=>exact⟨h.1 t mem_cons_self,Nat.le_trans (Nat.le_trans (Nat.le_add_right _ _) (Nat.le_add_right _ _)) h.2⟩
  | cons t' ts=>
   have q:=ih (M:=dZ ba (t'::ts)) ⟨fun x hx=>h.1 x (mem_cons_of_mem _ hx),Nat.le_refl _⟩
   show ((bx t++bx ba++dq ba (t'::ts)).all _)=true∧(bx t++bx ba++dq ba (t'::ts)).length≤M
   rw[List.all_append,List.all_append,length_append,length_append]
   exact⟨aI (aI (h.1 t mem_cons_self) eq_234.1) q.1,Nat.le_trans (Nat.add_le_add_left q.2 _) h.2⟩
theorem eq_236 {l:List Nat}{M:Nat}(h:(l.all (·<0x110000))=true)(h2:l.length≤M):GT M (cU l):=by
 have d:=tI h
 exact⟨by rw[d];exact h,by rw[d];exact h2⟩
def bm (n:Nat)(k:Kd) (L:Nat):Prop:=∀ {σ:ak}{K:KP},(∀ t,GT L t→K (.p (.str t)) σ)→ae an n 8 [.p (kD k)] σ K
theorem eq_237 {F:PV→ak→(List D→ak→Prop)→Prop}{vi:PV}{all:List PV}{σ:ak}(hv:∀ R,R→dE vi all σ R){g:Kd→Nat}:∀ {ks:List Kd}{K:List D→ak→Prop},(∀ x∈ks,∀ K:List D→ak→Prop,(∀ t,GT (g x) t→K [.str t] σ)→F (.p (kD x)) σ K)→(∀ ts,ts.length=ks.length→ot ((ks.map g).sum+2*ks.length) ts→K (ts.map .str) σ)→dh vi all F (List.map PV.p (kDs ks)) σ K
 | [],K,_,k=>hv _ (k [] rfl ⟨fun t h=>(by cases h),by simp[dZ]⟩)
 | x::ks,K,h,k=>hv _ (h x mem_cons_self _ fun t ht=>eq_237 hv (fun y hy=>h y (mem_cons_of_mem _ hy)) fun ts hl hts=>by
  have:=k (t::ts) (by simp[hl]) ⟨fun u hu=>by
   rcases mem_cons.mp hu with rfl | hu
   ·exact ht.1
   ·exact hts.1 u hu,by
   have a:=ht.2
   have b:=hts.2
   have c:=eq_234.2
   simp only[dZ,List.map_cons,List.sum_cons,List.length_cons] at b ⊢
   exact re (Nat.add_le_add c (Nat.add_le_add b a)) (by simp +arith only)⟩
  exact this)
theorem eq_238 {ts:List Nat}:jo (ts.map .str)=some ts:=by
 induction ts with
 | nil=>rfl
 | cons t ts ih=>exact congrArg (fun o:Option (List Nat)=>o.map (t::·)) ih
mutual
noncomputable def tok:Kd→Bool
 | .nam m=>ao.contains m
 | .num i=>i==1||i==2
 | .fn m=>m==mW||m==oh
 | .typ m=>ao.contains m
 | .arr m i=>ao.contains m&&(i==1||i==2)
 | .tup ks r=>(match r with
  | none=>true
  | some m=>ao.contains m)&&(Nat.ble ks.length 2&&toks ks)
 | .uni ks=>Nat.ble ks.length 18&&toks ks
 | _=>false
noncomputable def toks:List Kd→Bool
 | []=>true
 | k::ks=>tok k&&toks ks
end
theorem eq_937:∀ m∈ao,GT 20 m:=by
 have:∀ m∈ao,((bx m).all (·<0x110000))=true∧(bx m).length≤20:=by decide +kernel
 exact this
theorem eq_429 {n m:Nat}(hm:m∈ao):bm (n+1) (.nam m) 20:=by
 intro σ K k
 refine rg rfl rfl (rJ rfl rfl ?_)
 have g:=eq_937 m hm
 have e0:GT 0 gY:=⟨by decide +kernel,by decide +kernel⟩
 conv=>whnf
 refine mT (rj (by have:=g.2;have:=e0.2;lia)) ?_
 exact k _ ((g.cat e0).mono (by exact qZ rfl))
theorem eq_39 {n:Nat}{k:Kd}{t L:Nat}(g:GT L t)(h:∀ (σ:ak)(K:KP),ae an n 8 [.p (kD k)] σ K=K (.p (.str t)) σ):bm n k L:=fun k'=>by rw[h];exact k' _ g
theorem eq_938 {n m:Nat}(hm:m=mW∨m=oh):bm (n+5) (.fn m) 60:=by
 rcases hm with rfl | rfl
 ·exact eq_39 (t:=dg (dg eL mW) my) ⟨by decide +kernel,by decide +kernel⟩ fun σ K=>by kernel_rfl
 ·exact eq_39 (t:=dg (dg eL oh) my) ⟨by decide +kernel,by decide +kernel⟩ fun σ K=>by kernel_rfl
theorem eq_939 {n i:Nat}(hi:i=1∨i=2):bm (n+5) (.num i) 20:=by
 rcases hi with rfl | rfl
 ·exact eq_39 (t:=fY 1) ⟨by decide +kernel,by decide +kernel⟩ fun σ K=>by kernel_rfl
 ·exact eq_39 (t:=fY 2) ⟨by decide +kernel,by decide +kernel⟩ fun σ K=>by kernel_rfl
noncomputable def mP (m:Nat):Nat:=dg (dg iq (dg m gY)) dl
noncomputable def l7 (m i:Nat):Nat:=dg bg (dg (dg mx (cU (dq ba [dg m gY,fY i]))) dl)
theorem eq_940:∀ m∈ao,((bx (mP m)).all (·<0x110000))=true∧(bx (mP m)).length≤60:=by decide +kernel
theorem eq_941:∀ m∈ao,∀ i∈[1,2],((bx (l7 m i)).all (·<0x110000))=true∧(bx (l7 m i)).length≤60:=by decide +kernel
theorem eq_942 {n m:Nat}(hm:m∈ao):bm (n+5) (.typ m) 60:=by
 have go:∀ {m},((∀ {σ:ak}{K:KP},ae an (n+5) 8 [.p (kD (.typ m))] σ K=K (.p (.str (mP m))) σ))→GT 60 (mP m)→bm (n+5) (.typ m) 60:=fun e g=>eq_39 g fun σ K=>e
 exact fun {σ K} k=>eq_63 (P:=fun m=>GT 60 (mP m)→bm (n+5) (.typ m) 60) (go (by intro σ K;kernel_rfl)) (go (by intro σ K;kernel_rfl)) (go (by intro σ K;kernel_rfl)) (go (by intro σ K;kernel_rfl)) (go (by intro σ K;kernel_rfl)) (go (by intro σ K;kernel_rfl)) (go (by intro σ K;kernel_rfl)) m hm (eq_940 m hm) k
theorem eq_943 {n m i:Nat}(hm:m∈ao)(hi:i=1∨i=2):bm (n+5) (.arr m i) 60:=by
 have go:∀ {m i},((∀ {σ:ak}{K:KP},ae an (n+5) 8 [.p (kD (.arr m i))] σ K=K (.p (.str (l7 m i))) σ))→GT 60 (l7 m i)→bm (n+5) (.arr m i) 60:=fun e g=>eq_39 g fun σ K=>e
 have g:=fun i hi=>eq_941 m hm i hi
 rcases hi with rfl | rfl
 ·exact fun {σ K} k=>eq_63 (P:=fun m=>GT 60 (l7 m 1)→bm (n+5) (.arr m 1) 60) (go (by intro σ K;kernel_rfl)) (go (by intro σ K;kernel_rfl)) (go (by intro σ K;kernel_rfl)) (go (by intro σ K;kernel_rfl)) (go (by intro σ K;kernel_rfl)) (go (by intro σ K;kernel_rfl)) (go (by intro σ K;kernel_rfl)) m hm (g 1 mem_cons_self) k
 ·exact fun {σ K} k=>eq_63 (P:=fun m=>GT 60 (l7 m 2)→bm (n+5) (.arr m 2) 60) (go (by intro σ K;kernel_rfl)) (go (by intro σ K;kernel_rfl)) (go (by intro σ K;kernel_rfl)) (go (by intro σ K;kernel_rfl)) (go (by intro σ K;kernel_rfl)) (go (by intro σ K;kernel_rfl)) (go (by intro σ K;kernel_rfl)) m hm (g 2 (mem_cons_of_mem _ mem_cons_self)) k
end Mine
end
section
set_option maxHeartbeats 1000000
namespace Mine
open PySem
theorem eq_430 {ks:List Kd}{k:Kd}:toks ks=true→k∈ks→tok k=true:=by
 induction ks with
 | nil=>exact fun J h=>nomatch h
 | cons x ks ih=>exact fun h hm=>(mem_cons.mp hm).elim (fun e=>e▸(aT h).1) (ih (aT h).2)
theorem ub {ts us:List Nat}:dZ ba (ts++us)=dZ ba ts+dZ ba us:=by
 induction ts with
 | nil=>exact(Nat.zero_add _).symm
 | cons t ts ih=>exact(congrArg (_+·) ih).trans (Nat.add_assoc _ _ _).symm
theorem ot.app {ts us:List Nat}{M N:Nat}(h:ot M ts)(h':ot N us):ot (M+N) (ts++us):=by
 refine⟨fun t ht=>?_,by rw[ub];exact Nat.add_le_add h.2 h'.2⟩
 rcases mem_append.mp ht with ht | ht
 ·exact h.1 t ht
 ·exact h'.1 t ht
theorem eq_431:GT 10 dz∧GT 10 eK∧GT 10 eh∧GT 5 dl:=by
 refine⟨⟨?_,?_⟩,⟨?_,?_⟩,⟨?_,?_⟩,⟨?_,?_⟩⟩<;>decide +kernel
theorem add_str {a b A B:Nat}{m:Bool}{σ:ak}{K:KP}(ha:GT A a)(hb:GT B b)(hl:A+B≤100000)(k:K (.p (.str (dg a b))) σ):ny .Add m (.p (.str a)) (.p (.str b)) σ K:=by
 unfold ny
 refine mT (rj ?_) k
 have:=ha.2
 have:=hb.2
 lia
theorem eq_944 {n:Nat}{ks:List Kd}(hl:ks.length≤18)(hs:(ks.map fun k=>100*nd k).sum≤90000)(ih:∀ k∈ks,bm n k (100*nd k)):bm (n+1) (.uni ks) (100*nd (.uni ks)):=by
 intro σ K k
 refine rg rfl rfl (rJ rfl rfl ?_)
 obtain⟨_,g1,_,g2⟩:=eq_431
 conv=>whnf
 rw[rD,rj (by exact u1 hl rfl)]
 conv=>whnf
 refine eq_237 (g:=fun k=>100*nd k) rM (fun x hx K hK=>?_) fun ts hts hg=>?_
 ·conv=>whnf
  exact ih x hx hK
 ·have j:=eq_235 hg
  have gj:GT ((ks.map fun k=>100*nd k).sum+2*ks.length) (cU (dq ba ts)):=eq_236 j.1 j.2
  refine rc eq_238 ?_
  refine rF (rj (Nat.le_trans hg.2 (by exact re (Nat.add_le_add hs (Nat.mul_le_mul_left 2 hl)) (by simp +arith only)))) ?_
  have e:nd (.uni ks)*100=(ks.map fun k=>100*nd k).sum+100:=by
   rw[show nd (.uni ks)=(ks.map nd).sum+1 from congrArg (·+1) eq_70]
   have:∀ l:List Kd,(l.map fun k=>100*nd k).sum=(l.map nd).sum*100:=by
    intro l
    induction l with
    | nil=>rfl
    | cons a l ih=>simp only[List.map_cons,List.sum_cons,ih];lia
   rw[this];lia
  clear j
  revert gj g1 g2
  generalize cU (dq ba ts)=T0
  generalize eK=A
  generalize dl=B
  intro g1 g2 gj
  refine add_str (m:=false) g1 gj (by exact re (Nat.add_le_add hs (Nat.mul_le_mul_left 2 hl)) (by simp +arith only)) ?_
  refine add_str (m:=false) (g1.cat gj) g2 (by exact re (Nat.add_le_add hs (Nat.mul_le_mul_left 2 hl)) (by simp +arith only)) ?_
  exact k _ (((g1.cat gj).cat g2).mono (by exact re (Nat.add_le_add (Nat.le_of_eq e.symm) (Nat.mul_le_mul_left 2 hl)) (by simp +arith only)))
theorem eq_239 (l:List Kd):(l.map fun k=>100*nd k).sum=(l.map nd).sum*100:=by
 induction l with
 | nil=>rfl
 | cons a l ih=>exact(congrArg (100*nd a+·) ih).trans ((congrArg (·+_) (Nat.mul_comm _ _)).trans (Nat.add_mul _ _ _).symm)
theorem eq_945 {t L:Nat}(h:GT L t):ot (L+2) [t]:=⟨fun x hx=>by rw[mem_singleton.mp hx];exact h.1,by
 have:=h.2
 have:=eq_234.2
 simp only[dZ];lia⟩
theorem eq_946 {n:Nat}{ks:List Kd}{r:Option Nat}(hl:ks.length≤2)(hr:∀ m,r=some m→m∈ao)(hs:(ks.map fun k=>100*nd k).sum≤90000)(ih:∀ k∈ks,bm (n+1) k (100*nd k)):bm (n+2) (.tup ks r) (100*nd (.tup ks r)):=by
 intro σ K k
 obtain⟨g0,_,g1,g2⟩:=eq_431
 have e:nd (.tup ks r)*100=(ks.map fun k=>100*nd k).sum+200:=by
  rw[show nd (.tup ks r)=(ks.map nd).sum+2 from congrArg (·+2) eq_70]
  rw[eq_239];lia
 refine rg rfl rfl (rJ rfl rfl ?_)
 generalize hm:n+1=m
 rw[hm] at ih
 conv=>whnf
 rw[rD,rj (by exact u1 hl rfl)]
 conv=>whnf
 refine eq_237 (g:=fun k=>100*nd k) rM (fun x hx K hK=>?_) fun ts hts hg=>?_
 ·conv=>whnf
  exact ih x hx hK
 ·cases r with
  | none=>
   conv=>whnf
   rw[length_map,length_map,rj (by simp;exact u6 hts hl rfl)]
   conv=>whnf
   rw[List.map_nil,append_nil,rR]
   refine rc eq_238 ?_
   refine rF (rj (Nat.le_trans hg.2 (by exact re (Nat.add_le_add hs (Nat.mul_le_mul_left 2 hl)) (by simp +arith only)))) ?_
   have j:=eq_235 hg
   have gj:=eq_236 j.1 j.2
   clear j
   revert gj g0 g2
   generalize cU (dq ba ts)=T0
   generalize dz=A
   generalize dl=B
   intro g0 g2 gj
   refine add_str (m:=false) g0 gj (by exact re (Nat.add_le_add hs (Nat.mul_le_mul_left 2 hl)) (by simp +arith only)) ?_
   refine add_str (m:=false) (g0.cat gj) g2 (by exact re (Nat.add_le_add hs (Nat.mul_le_mul_left 2 hl)) (by simp +arith only)) ?_
   exact k _ (((g0.cat gj).cat g2).mono (by exact re (Nat.add_le_add (Nat.le_of_eq e.symm) (Nat.mul_le_mul_left 2 hl)) (by simp +arith only)))
  | some t=>
   conv=>whnf
   subst hm
   refine eq_429 (hr t rfl) fun w hw=>?_
   generalize hm:n+1=m
   have gv:=(g1.cat hw).cat g2
   revert g0 g1 g2 gv
   generalize dz=A
   generalize dl=B
   generalize eh=C
   intro g0 g1 g2 gv
   refine add_str (m:=false) g1 hw (by exact qZ rfl) ?_
   conv=>whnf
   refine mT (c:=Nat.ble ((bx (dg C w)).length+(bx B).length) 100000) (rj (by have:=(g1.cat hw).2;have:=g2.2;lia)) ?_
   have hg2:=hg.app (eq_945 gv)
   generalize dg (dg C w) B=V at *
   conv=>whnf
   rw[length_map,length_map,rj (by simp;exact u6 hts hl rfl)]
   conv=>whnf
   rw[show List.map PV.p (List.map D.str ts)++List.map PV.p ((fun x=>D.str V::x) [])=List.map PV.p (List.map D.str (ts++[V])) from by simp,rR]
   refine rc eq_238 ?_
   refine rF (rj (Nat.le_trans hg2.2 (by exact re (Nat.add_le_add hs (Nat.mul_le_mul_left 2 hl)) (by simp +arith only)))) ?_
   have j:=eq_235 hg2
   have gj:=eq_236 j.1 j.2
   clear j
   revert gj
   generalize cU (dq ba (ts++[V]))=T0
   intro gj
   refine add_str (m:=false) g0 gj (by exact re (Nat.add_le_add hs (Nat.mul_le_mul_left 2 hl)) (by simp +arith only)) ?_
   refine add_str (m:=false) (g0.cat gj) g2 (by exact re (Nat.add_le_add hs (Nat.mul_le_mul_left 2 hl)) (by simp +arith only)) ?_
   exact k _ (((g0.cat gj).cat g2).mono (by exact re (Nat.add_le_add (Nat.le_of_eq e.symm) (Nat.mul_le_mul_left 2 hl)) (by simp +arith only)))
end Mine
end
section
namespace Mine
open PySem
theorem eq_432 {ks:List Kd}{k:Kd}(h:k∈ks):nd k≤nds ks:=by
 rw[eq_70]
 induction ks with
 | nil=>cases h
 | cons a l ih=>
  simp only[List.map_cons,List.sum_cons]
  rcases mem_cons.mp h with rfl | h
  ·exact Nat.le_add_right _ _
  ·have:=ih h;exact re this (by simp +arith only)
theorem bm.mono {L M:Nat}{m:Nat}{k:Kd}(h:bm m k L)(hL:L≤M):bm m k M:=fun {σ K} k=>h fun t ht=>k t (ht.mono hL)
theorem uc:∀ (n:Nat){k:Kd},k.dep≤n→tok k=true→nd k≤900→bm (n+6) k (100*nd k):=by
 intro n
 induction n with
 | zero=>intro k h;have:=eq_27 (k:=k);lia
 | succ n ih=>
  intro k h ht hn
  have eqs:∀ {i a b:Nat},(i==a||i==b)=true→i=a∨i=b:=fun h=>(oT h).imp LawfulBEq.eq_of_beq LawfulBEq.eq_of_beq
  cases k with
  | nam m=>exact fun {σ K} k=>bm.mono (M:=100*1) (eq_429 (n:=n+6) (rn ht)) (qZ rfl) k
  | num i=>exact fun {σ K} k=>bm.mono (M:=100*1) (eq_939 (n:=n+2) (eqs ht)) (qZ rfl) k
  | fn m=>exact fun {σ K} k=>bm.mono (M:=100*1) (eq_938 (n:=n+2) (eqs ht)) (qZ rfl) k
  | typ m=>exact fun {σ K} k=>bm.mono (M:=100*2) (eq_942 (n:=n+2) (rn ht)) (qZ rfl) k
  | arr m i=>exact fun {σ K} k=>bm.mono (M:=100*3) (eq_943 (n:=n+2) (rn (aT ht).1) (eqs (aT ht).2)) (qZ rfl) k
  | tup ks r=>
   exact fun {σ K}=>eq_946 (n:=n+5) (r:=r) (qZ (aT (aT ht).2).1) (fun m e=>rn (by have:=(aT ht).1;rw[e] at this;exact this)) (by rw[eq_239,← eq_70];exact Nat.mul_le_mul_right 100 (Nat.le_trans (Nat.le_add_right _ _) hn)) fun x hx=>ih (Nat.le_trans (su hx) (Nat.le_of_succ_le_succ h)) (eq_430 (aT (aT ht).2).2 hx) (Nat.le_trans (eq_432 hx) (Nat.le_trans (Nat.le_add_right _ _) hn))
  | uni ks=>
   exact fun {σ K}=>eq_944 (n:=n+6) (ks:=ks) (qZ (aT ht).1) (by rw[eq_239,← eq_70];exact Nat.mul_le_mul_right 100 (Nat.le_trans (Nat.le_add_right _ _) hn)) fun x hx=>ih (Nat.le_trans (su hx) (Nat.le_of_succ_le_succ h)) (eq_430 (aT ht).2 hx) (Nat.le_trans (eq_432 hx) (Nat.le_trans (Nat.le_add_right _ _) hn))
  | _=>exact fun {σ K}=>Bool.noConfusion ht
noncomputable def i7 (left found:List Kd):ak:=[.list ((kDs left.reverse).map .p),.list ((kDs found).map .p)]
noncomputable def i8 (v:PV)(rest:aN):aN:=(aj,v)::(bv,.ref 0)::(aH,.ref 1)::rest
def cH (rest:aN):Prop:=rest=[]∨∃ A,rest=[(aY,A)]
theorem eq_240 {σ:ak}{i:Nat}{ds:List D}(h:σ[i]?=some (.list (ds.map .p))):ja σ (.ref i)=some (.lst ds):=by
 simp only[ja,h,rR];rfl
theorem eq_433 {x:Kd}{ks:List Kd}:(List.map PV.p (kDs (x::ks).reverse)).isEmpty=false:=by rw[List.reverse_cons,tc];simp[kDs]
theorem eq_434 {n:Nat}{v:PV}{rest:aN}{x:Kd}{ks found:List Kd}{R:T}{K:KR}(hr:cH rest)(hl:ks.length≤1000)(go:bu an.tab (ae an n) R (i8 v [(aY,.p (kD x))]) (i7 ks found) K) :
  bu an.tab (ae an n) (.cons (.asg aY (.bme .pop (.var bv) .nil)) R) (i8 v rest) (i7 (x::ks) found) K:=by
 have e0:kDs (x::ks).reverse=kDs ks.reverse++[kD x]:=by rw[List.reverse_cons,tc];rfl
 have e2:(List.map PV.p (kDs (x::ks).reverse)).getLast?=some (.p (kD x)):=by rw[e0];simp
 have e3:(List.map PV.p (kDs (x::ks).reverse)).dropLast=List.map PV.p (kDs ks.reverse):=by rw[e0];simp
 have e4:Nat.ble (List.map PV.p (kDs (x::ks).reverse)).length 100000=true:=by
  rw[show (List.map PV.p (kDs (x::ks).reverse)).length=ks.length+1 from by rw[rD];simp];exact rj (u5 hl rfl)
 rcases hr with rfl | ⟨A,rfl⟩
 all_goals
  refine rc e2 ?_
  rw[e3]
  refine rF e4 ?_
  exact go
theorem eq_947 {n:Nat}{v:PV}{x:Kd}{ks found:List Kd}{K:KR}(hb:x≠.bot)(hd:x.dep≤20)(hu:fE x=false)(hl2:found.length≤1000)
  (h:K .next (i8 v [(aY,.p (kD x))]) (i7 ks (bif found.contains x then found else found++[x]))):bu an.tab (ae an n) (iJ 1 j7) (i8 v [(aY,.p (kD x))]) (i7 ks found) K:=by
 conv=>whnf
 rw[rA]
 conv=>whnf
 rw[eq_11,hu]
 conv=>whnf
 rw[show D.eqv (kD x) (.tup [.str aB])=false from by
  have:D.eqv (kD x) (kD .bot)=false:=by rw[rU,decide_eq_false hb]
  exact this]
 conv=>whnf
 obtain⟨rd,ec⟩:=eq_57 x
 rw[ec]
 refine rc (eq_240 (ds:=kDs found) rfl) ?_
 conv=>whnf
 rw[← ec]
 refine mT (r6 (k:=x) hd) ?_
 rw[eq_119]
 cases q:found.contains x with
 | true=>
  rw[q] at h
  exact h
 | false=>
  rw[q] at h
  conv=>whnf
  rw[rD,rj (by exact u1 hl2 rfl)]
  have e:List.map PV.p (kDs found)++[.p (kD x)]=List.map PV.p (kDs (found++[x])):=by rw[tc,map_append];rfl
  conv=>whnf
  rw[e]
  exact h
theorem eq_948 {n k:Nat}{v:PV}{rest:aN}{x:Kd}{ks found:List Kd}{K:KR}(hr:cH rest)(hb:x≠.bot)(hd:x.dep≤20)(hu:fE x=false)(hl:ks.length≤1000)(hl2:found.length≤1000)
  (h:∀ rest,cH rest→bj (fun ρ σ K=>bR an.tab (ae an n) k7 ρ σ (bK K)) (bu an.tab (ae an n) j7) k (i8 v rest) (i7 ks (bif found.contains x then found else found++[x])) K) :
  bj (fun ρ σ K=>bR an.tab (ae an n) k7 ρ σ (bK K)) (bu an.tab (ae an n) j7) (k+1) (i8 v rest) (i7 (x::ks) found) K:=by
 refine eq_186 (fun G g=>?_) (fun K2 k2=>eq_434 hr hl (eq_947 hb hd hu hl2 k2)) (h _ (.inr ⟨_,rfl⟩))
 conv=>whnf
 rw[eq_433]
 exact g
theorem eq_949 {n:Nat}{v:PV}{ls ks found:List Kd}{K:KR}(hl:ks.length≤1000)(hl2:ls.length≤300)
  (h:K .next (i8 v [(aY,.p (kD (.uni ls)))]) (i7 (ls++ks) found)):bu an.tab (ae an n) (iJ 1 j7) (i8 v [(aY,.p (kD (.uni ls)))]) (i7 ks found) K:=by
 have e5:List.map PV.p (kDs ks.reverse)++List.map PV.p (kDs ls.reverse)=List.map PV.p (kDs (ls++ks).reverse):=by
  rw[List.reverse_append,tc,map_append]
 have e6:(List.map PV.p (kDs ks.reverse)).length+(kDs ls.reverse).length≤100000:=by
  rw[rD,s9];simp;exact eq_138 hl hl2 rfl
 refine rc (eq_395 hl2) ?_
 conv=>whnf
 rw[eq_59]
 conv=>whnf
 rw[rj e6]
 conv=>whnf
 rw[e5]
 exact h
theorem eq_950 {n k:Nat}{v:PV}{rest:aN}{ls ks found:List Kd}{K:KR}(hr:cH rest)(hl:ks.length≤1000)(hl2:ls.length≤300)
  (h:∀ rest,cH rest→bj (fun ρ σ K=>bR an.tab (ae an n) k7 ρ σ (bK K)) (bu an.tab (ae an n) j7) k (i8 v rest) (i7 (ls++ks) found) K) :
  bj (fun ρ σ K=>bR an.tab (ae an n) k7 ρ σ (bK K)) (bu an.tab (ae an n) j7) (k+1) (i8 v rest) (i7 (.uni ls::ks) found) K:=by
 refine eq_186 (fun G g=>?_) (fun K2 k2=>eq_434 hr hl (eq_949 hl hl2 k2)) (h _ (.inr ⟨_,rfl⟩))
 conv=>whnf
 rw[eq_433]
 exact g
theorem eq_435 {n:Nat}{v:PV}{more:List Kd}(hm:more.length≤300):∀ {ks found:List Kd}{k:Nat}{rest:aN}{K:KR},cH rest→(∀ x∈ks,fE x=false∧x≠.bot∧x.dep≤20)→ks.length+found.length≤500→
  (∀ rest,cH rest→bj (fun ρ σ K=>bR an.tab (ae an n) k7 ρ σ (bK K)) (bu an.tab (ae an n) j7) k (i8 v rest) (i7 more (gK found ks)) K)→
  bj (fun ρ σ K=>bR an.tab (ae an n) k7 ρ σ (bK K)) (bu an.tab (ae an n) j7) (ks.length+k) (i8 v rest) (i7 (ks++more) found) K
 | [],found,k,rest,K,hr,h,hl,go=>by
  rw[show ([]:List Kd).length+k=k from Nat.zero_add k]
  exact go rest hr
 | x::ks,found,k,rest,K,hr,h,hl,go=>by
  have hx:=h x mem_cons_self
  simp only[List.length_cons] at hl
  rw[show (x::ks).length+k=(ks.length+k)+1 by simp only[List.length_cons];lia,List.cons_append]
  refine eq_948 hr hx.2.1 hx.2.2 hx.1 (by rw[length_append];exact re (Nat.add_le_add hl hm) (by simp +arith only)) (by exact eq_18 hl rfl) fun rest' hr'=>?_
  have e:gK found (x::ks)=gK (bif found.contains x then found else found++[x]) ks:=by
   simp only[gK];cases found.contains x<;>rfl
  rw[e] at go
  refine eq_435 hm hr' (fun y hy=>h y (mem_cons_of_mem _ hy)) ?_ go
  cases found.contains x with
  | true=>simp only[cond_true];exact re hl (by simp +arith only)
  | false=>simp only[cond_false,length_append,List.length_cons,List.length_nil];exact re hl (by simp +arith only)
theorem eq_951 {n k:Nat}{v:PV}{rest:aN}{found:List Kd}{K:KR}(hr:cH rest)(h:K .next (i8 v rest) (i7 [] found)) :
  bj (fun ρ σ K=>bR an.tab (ae an n) k7 ρ σ (bK K)) (bu an.tab (ae an n) j7) (k+1) (i8 v rest) (i7 [] found) K:=by
 rcases hr with rfl | ⟨A,rfl⟩<;>exact h
def ou (a:Kd):Prop:=(∀ x∈aX a,fE x=false∧x≠.bot∧x.dep≤20)∧(aX a).length≤60
theorem eq_436 {n k:Nat}{v:PV}{rest:aN}{a:Kd}{more found:List Kd}{K:KR}(ha:ou a)(hm:more.length≤300)(hl:found.length≤300)(hk:70≤k)(hr:cH rest)
  (h:∀ rest k',cH rest→k≤k'+61→bj (fun ρ σ K=>bR an.tab (ae an n) k7 ρ σ (bK K)) (bu an.tab (ae an n) j7) k' (i8 v rest) (i7 more (gK found (aX a))) K) :
  bj (fun ρ σ K=>bR an.tab (ae an n) k7 ρ σ (bK K)) (bu an.tab (ae an n) j7) k (i8 v rest) (i7 (a::more) found) K:=by
 have go:∀ (ls:List Kd)(rest:aN) (k:Nat),cH rest→ls.length+5≤k→(∀ x∈ls,fE x=false∧x≠.bot∧x.dep≤20)→ls.length≤60→(∀ rest k',cH rest→k≤k'+60→bj (fun ρ σ K=>bR an.tab (ae an n) k7 ρ σ (bK K)) (bu an.tab (ae an n) j7) k' (i8 v rest) (i7 more (gK found ls)) K)→bj (fun ρ σ K=>bR an.tab (ae an n) k7 ρ σ (bK K)) (bu an.tab (ae an n) j7) k (i8 v rest) (i7 (ls++more) found) K:=by
  intro ls rest k hr hk h1 h2 go
  obtain⟨k',rfl⟩:∃ m,k=ls.length+m:=⟨k - ls.length,by lia⟩
  exact eq_435 hm hr h1 (by exact eq_138 h2 hl rfl) fun rest hr=>go rest k' hr (by exact re h2 (by simp +arith only))
 by_cases hu:∃ ls,a=.uni ls
 ·obtain⟨ls,rfl⟩:=hu
  obtain⟨k,rfl⟩:∃ m,k=m+1:=⟨k - 1,by exact rq hk⟩
  have h2:ls.length≤60:=ha.2
  refine eq_950 hr (by exact u1 hm rfl) (by exact u1 h2 rfl) fun rest hr=>?_
  exact go ls rest k hr (by exact re (Nat.add_le_add h2 hk) (by simp +arith only)) ha.1 ha.2 fun rest k' hr hk=>h rest k' hr (by exact Nat.succ_le_succ hk)
 ·have e:aX a=[a]:=by cases a<;>first | rfl | exact absurd ⟨_,rfl⟩ hu
  have ha':=ha
  unfold ou at ha'
  rw[e] at h ha'
  exact go [a] rest k hr (by simp;exact re hk (by simp +arith only)) ha'.1 ha'.2 fun rest k' hr hk=>h rest k' hr (by exact re hk (by simp +arith only))
theorem eq_952 {xs:List Kd}:∀ {ys found:List Kd},gK found (xs++ys)=gK (gK found xs) ys:=by
 induction xs with
 | nil=>exact rfl
 | cons x xs ih=>
  intro ys found
  show (bif found.contains x then gK found (xs++ys) else gK (found++[x]) (xs++ys))=gK (bif found.contains x then gK found xs else gK (found++[x]) xs) ys
  cases found.contains x with
  | true=>exact ih
  | false=>exact ih
theorem eq_953 {xs:List Kd}:∀ {found:List Kd},(gK found xs).length≤found.length+xs.length:=by
 induction xs with
 | nil=>exact Nat.le_refl _
 | cons x xs ih=>
  intro found
  show (bif found.contains x then gK found xs else gK (found++[x]) xs).length≤_
  cases found.contains x with
  | true=>exact Nat.le_succ_of_le ih
  | false=>exact Nat.le_trans (ih (found:=found++[x])) (Nat.le_of_eq (by rw[length_append,Nat.add_assoc,Nat.add_comm [x].length];rfl))
theorem eq_954 {n:Nat}{v:PV}{a b:Kd}{K:KR}(ha:ou a)(hb:ou b)(h:∀ rest,cH rest→K .next (i8 v rest) (i7 [] (fC a b))) :
  bj (fun ρ σ K=>bR an.tab (ae an n) k7 ρ σ (bK K)) (bu an.tab (ae an n) j7) dF (i8 v []) (i7 [a,b] []) K:=by
 have w:dF=100000:=rfl
 have l1:=eq_953 (xs:=aX a) (found:=[])
 have:=ha.2
 simp only[List.length_nil] at l1
 refine eq_436 ha (by simp) (by simp) (by exact qZ rfl) (.inl rfl) fun rest k hr hk=>?_
 refine eq_436 hb (by simp) (by exact re (Nat.add_le_add this l1) (by simp +arith only)) (by exact u2 hk rfl) hr fun rest k' hr hk'=>?_
 obtain⟨k',rfl⟩:∃ m,k'=m+1:=⟨k' - 1,by lia⟩
 refine eq_951 hr ?_
 have:=h rest hr
 unfold fC at this
 rw[eq_952] at this
 exact this
theorem eq_437 {F:PV→ak→(PV→ak→Prop)→Prop}{σ:ak}:∀ {ks:List Kd}{K:List Nat→ak→Prop},(∀ x∈ks,∀ K:PV→ak→Prop,(∀ t,K (.p (.str t)) σ)→F (.p (kD x)) σ K)→(∀ ts,K ts σ)→h9 F (kDs ks) σ K
 | [],K,h,k=>k []
 | x::ks,K,h,k=>h x mem_cons_self _ fun t=>eq_437 (K:=fun ts σ=>K (t::ts) σ) (fun y hy=>h y (mem_cons_of_mem _ hy)) fun ts=>k (t::ts)
theorem eq_955:∀ {zs ys:List D},zs.Perm ys→∀ ks,ys=kDs ks→∃ ls,ls.Perm ks∧zs=kDs ls:=by
 intro zs ys h
 induction h with
 | nil=>intro ks e;cases ks with
  | nil=>exact⟨[],.nil,rfl⟩
  | cons x xs=>simp[kDs] at e
 | cons x h ih=>
  intro ks e
  cases ks with
  | nil=>simp[kDs] at e
  | cons k ks=>
   simp only[kDs,List.cons.injEq] at e
   obtain⟨ls,h1,h2⟩:=ih ks e.2
   exact⟨k::ls,h1.cons k,by simp only[kDs,e.1,h2]⟩
 | swap x y l=>
  intro ks e
  match ks with
  | []=>simp[kDs] at e
  | [k]=>simp[kDs] at e
  | k::k'::ks=>
   simp only[kDs,List.cons.injEq] at e
   exact⟨k'::k::ks,.swap _ _ _,by simp only[kDs,e.1,e.2.1,e.2.2]⟩
 | trans h1 h2 ih1 ih2=>
  intro ks e
  obtain⟨ls,p1,e1⟩:=ih2 ks e
  obtain⟨ms,p2,e2⟩:=ih1 ls e1
  exact⟨ms,p2.trans p1,e2⟩
theorem eq_956 {n:Nat}{v:PV}{rest:aN}{a b:Kd}{K:KR}(hr:cH rest)(ht:∀ x∈fC a b,bm n x 90000∧x≠.nam ai)(h0:fC a b≠[])(hl:(fC a b).length≤63)
  (h:∀ k,UnOf a b k→∀ ρ σ,K (.ret (.p (kD k))) ρ σ):bu an.tab (ae an n) px (i8 v rest) (i7 [] (fC a b)) K:=by
 have eA:dY (kD (.nam ai)) (kDs (fC a b))=false:=by
  rw[eq_119]
  cases q:(fC a b).contains (.nam ai) with
  | false=>rfl
  | true=>exact absurd rfl (ht _ (by simpa using q)).2
 generalize hu:fC a b=us at *
 have one:=fun x (e:us=[x])=>h x (.one (hu.trans e))
 have many:=fun zs (p:zs.Perm us)(l:2≤us.length)=>h (.uni zs) (.many (by rw[hu];exact p) (by rw[hu];exact l))
 refine rc (eq_240 (ds:=kDs us) rfl) ?_
 conv=>whnf
 rw[show dY (.tup [.str aa,.str ai,.tup []]) (kDs us)=false from eA]
 conv=>whnf
 rcases us with _ | ⟨x,_ | ⟨y,us⟩⟩
 ·exact absurd rfl h0
 ·exact one x rfl _ _
 ·conv=>whnf
  rw[rD,rj (by simp at hl ⊢;exact u1 hl rfl)]
  conv=>whnf
  rw[eq_240 (ds:=kDs (x::y::us)) rfl]
  refine mT (c:=Nat.ble 2 (kDs (x::y::us)).length&&Nat.ble (kDs (x::y::us)).length 63) ?_ ?_
  ·rw[s9,rj hl];rfl
  ·refine eq_437 (ks:=x::y::us) (fun z hz K' hK=>(ht z hz).1 fun t J=>hK t) fun ts zs hp=>?_
   obtain⟨ls,p,rfl⟩:=eq_955 hp _ rfl
   have lz:ls.length≤63:=by rw[p.length_eq];exact hl
   conv=>whnf
   rw[rD,rj (by exact u1 lz rfl)]
   conv=>whnf
   rw[eq_59]
   exact many ls p (by simp) _ _
theorem eq_957 {n:Nat}{a b:Kd}{σ:ak}{K:KP}(ha:ou a)(hb:ou b)(ht:∀ x∈fC a b,bm n x 90000∧x≠.nam ai)(h0:fC a b≠[])(hl:(fC a b).length≤63)
  (h:∀ k,UnOf a b k→K (.p (kD k)) σ):ae an (n+1) 2 [.p (.lst [kD a,kD b])] σ K:=by
 refine rg rfl rfl (rJ rfl rfl ?_)
 refine eq_6 (ρ:=[(aj,.p (.lst [kD a,kD b]))]) rfl ?_
 refine eq_396 (t:=.cons (.whl k7 j7) px) ?_
 generalize hX:bu an.tab (ae an n) (.cons (.whl k7 j7) px)=X
 conv=>whnf
 subst hX
 refine eq_206 ?_
 refine eq_954 (v:=.p (.lst [kD a,kD b])) ha hb fun rest hr=>?_
 refine eq_956 hr ht h0 hl fun k hk ρ σ'=>?_
 exact h k hk
mutual
noncomputable def lf:Kd→Nat
 | .tup ks _=>Nat.max 1 (lfs ks)
 | .uni ks=>lfs ks
 | _=>1
noncomputable def lfs:List Kd→Nat
 | []=>0
 | k::ks=>lf k+lfs ks
end
mutual
noncomputable def mm:Kd→Nat
 | .tup ks _=>mms ks+4
 | .uni ks=>mmx ks+1
 | _=>5
noncomputable def mms:List Kd→Nat
 | []=>0
 | k::ks=>mm k+mms ks
noncomputable def mmx:List Kd→Nat
 | []=>0
 | k::ks=>Nat.max (mm k) (mmx ks)
end
noncomputable def qj:Option Nat→Bool
 | none=>true
 | some m=>ao.contains m
noncomputable def o8 (ks:List Kd):Bool:=ks.all fun k=>!fE k
mutual
noncomputable def gd:Kd→Bool
 | .nam m=>ao.contains m
 | .fn m=>m==mW||m==oh
 | .typ m=>ao.contains m
 | .arr m i=>ao.contains m&&(i==1||i==2)
 | .tup ks r=>(Nat.ble ks.length 2&&qj r)&&gds ks
 | .uni ks=>(Nat.ble 1 ks.length&&o8 ks)&&gds ks
 | _=>false
noncomputable def gds:List Kd→Bool
 | []=>true
 | k::ks=>gd k&&gds ks
end
theorem sX {ks:List Kd}:gds ks=true↔∀ k∈ks,gd k=true:=by
 induction ks with
 | nil=>exact⟨(fun J J h=>nomatch h),fun J=>rfl⟩
 | cons k ks ih=>exact⟨fun h x hx=>(mem_cons.mp hx).elim (fun e=>e▸(aT h).1) (ih.mp (aT h).2 x),fun h=>aI (h k mem_cons_self) (ih.mpr fun x hx=>h x (mem_cons_of_mem _ hx))⟩
theorem tq {ks:List Kd}:lfs ks=(ks.map lf).sum:=by
 induction ks with
 | nil=>rfl
 | cons k ks ih=>exact congrArg (lf k+·) ih
theorem eq_438 {ks:List Kd}:mms ks=(ks.map mm).sum:=by
 induction ks with
 | nil=>rfl
 | cons k ks ih=>exact congrArg (mm k+·) ih
theorem eq_958 {ks:List Kd}{k:Kd}(h:k∈ks):mm k≤mmx ks:=by
 induction ks with
 | nil=>cases h
 | cons x ks ih=>
  rcases mem_cons.mp h with rfl | h
  ·exact Nat.le_max_left _ _
  ·exact Nat.le_trans (ih h) (Nat.le_max_right _ _)
theorem eq_959 {ks:List Kd}{m:Nat}(h:∀ k∈ks,mm k≤m):mmx ks≤m:=by
 induction ks with
 | nil=>exact Nat.zero_le _
 | cons x ks ih=>exact Nat.max_le.mpr ⟨h x mem_cons_self,ih fun k hk=>h k (mem_cons_of_mem _ hk)⟩
theorem eq_960 {ks:List Kd}{m:Nat}(h:∀ k∈ks,k.dep≤m):Kd.deps ks≤m:=by
 induction ks with
 | nil=>exact Nat.zero_le _
 | cons x ks ih=>exact Nat.max_le.mpr ⟨h x mem_cons_self,ih fun k hk=>h k (mem_cons_of_mem _ hk)⟩
theorem eq_241 {k:Kd}:gd k=true→1≤lf k:=
 Kd.rec (motive_1:=fun k=>gd k=true→1≤lf k) (motive_2:=fun ks=>gds ks=true→ks.length≤lfs ks) ff (fun J J=>Nat.le_refl _) (fun J=>ff) (fun J J=>Nat.le_refl _) (fun J J=>Nat.le_refl _) (fun J J J=>Nat.le_refl _) (fun J J J J=>Nat.le_max_left _ _) (fun J ih h=>Nat.le_trans (Nat.le_of_ble_eq_true (aT (aT h).1).1) (ih (aT h).2)) ff ff (fun J J=>ff)
  (fun J=>Nat.le_refl _) (fun k ks ih ihs h=>Nat.le_trans (Nat.le_of_eq (Nat.add_comm _ 1)) (Nat.add_le_add (ih (aT h).1) (ihs (aT h).2))) k
theorem eq_40 {ks:List Kd}(h:gds ks=true):ks.length≤lfs ks:=by
 induction ks with
 | nil=>exact Nat.le_refl _
 | cons k ks ih=>exact Nat.le_trans (Nat.le_of_eq (Nat.add_comm _ 1)) (Nat.add_le_add (eq_241 (aT h).1) (ih (aT h).2))
theorem eq_961 {k:Kd}:1≤mm k:=by cases k<;>first | exact qZ rfl | exact Nat.le_add_left 1 _ | exact Nat.le_trans (qZ rfl) (Nat.le_add_left 4 _)
theorem tH (k:Kd):gd k=true→lf k≤18→Kl k=true∧tok k=true:=by
 refine Kd.rec (motive_1:=fun k=>gd k=true→lf k≤18→Kl k=true∧tok k=true) (motive_2:=fun ks=>gds ks=true→lfs ks≤18→Kls ks=true∧toks ks=true) ff (fun J h J=>⟨h,h⟩) (fun J=>ff) (fun J h J=>⟨rfl,h⟩) (fun J h J=>⟨h,h⟩) (fun J J h J=>⟨(aT h).1,h⟩) (fun ks r ih h hl=>?_) (fun ks ih h hl=>?_) ff ff (fun J J=>ff)
  (fun J J=>⟨rfl,rfl⟩) (fun J J ih ihs h hl=>⟨aI (ih (aT h).1 (sj hl rfl)).1 (ihs (aT h).2 (eq_18 hl rfl)).1,aI (ih (aT h).1 (sj hl rfl)).2 (ihs (aT h).2 (eq_18 hl rfl)).2⟩) k
 ·have q:=ih (aT h).2 (Nat.le_trans (Nat.le_max_right 1 _) hl)
  have a:=(aT h).1
  cases r with
  | none=>exact⟨aI a q.1,aI (aT a).1 q.2⟩
  | some m=>exact⟨aI a q.1,aI (aT a).2 (aI (aT a).1 q.2)⟩
 ·have q:=ih (aT h).2 hl
  exact⟨aI (aI (aT (aT h).1).1 (rj (Nat.le_trans (eq_40 (aT h).2) hl))) q.1,aI (rj (Nat.le_trans (eq_40 (aT h).2) hl)) q.2⟩
theorem eq_439 {ks:List Kd}(h:gds ks=true)(hl:lfs ks≤18):Kls ks=true∧toks ks=true:=by
 induction ks with
 | nil=>exact⟨rfl,rfl⟩
 | cons k ks ih=>
  have a:=tH k (aT h).1 (sj hl rfl)
  have b:=ih (aT h).2 (eq_18 hl rfl)
  exact⟨aI a.1 b.1,aI a.2 b.2⟩
noncomputable def gU (n:Nat):Nat:=[1,1,2,3,4,6,9,12,18,27].getD n 36
theorem eq_962:∀ a:Fin 11,∀ b:Fin 11,1≤a.val→1≤b.val→a.val+b.val≤10→gU a.val+gU b.val≤gU (a.val+b.val)∧gU a.val*gU b.val≤gU (a.val+b.val):=by decide +kernel
theorem eq_440 {a b:Nat}(ha:1≤a)(hb:1≤b)(h:a+b≤10):gU a+gU b≤gU (a+b)∧gU a*gU b≤gU (a+b):=eq_962 ⟨a,Nat.lt_succ_of_le (sj h rfl)⟩ ⟨b,Nat.lt_succ_of_le (eq_18 h rfl)⟩ ha hb h
theorem eq_963:∀ a:Fin 11,∀ b:Fin 11,a.val≤b.val→gU a.val≤gU b.val:=by decide +kernel
theorem tP {a b:Nat}(h:a≤b)(hb:b≤10):gU a≤gU b:=eq_963 ⟨a,Nat.lt_succ_of_le (Nat.le_trans h hb)⟩ ⟨b,Nat.lt_succ_of_le hb⟩ h
theorem eq_441 {a:Nat}(h:a≤10):gU a≤64:=u1 (tP (b:=10) h (Nat.le_refl _)) rfl
def qV (ks:List Kd):Prop:=gds ks=true→lfs ks≤10→coks ks=true∧(1≤ks.length→cns ks≤gU (lfs ks))∧cnp ks≤gU (Nat.max 1 (lfs ks))
theorem tQ (k:Kd):gd k=true→lf k≤10→cn k≤gU (lf k)∧lL k=true:=by
 refine Kd.rec (motive_1:=fun k=>gd k=true→lf k≤10→cn k≤gU (lf k)∧lL k=true) (motive_2:=qV) ff (fun J J J=>⟨Nat.le_refl _,rfl⟩) (fun J=>ff) (fun J J J=>⟨Nat.le_refl _,rfl⟩) (fun J J J=>⟨Nat.le_refl _,rfl⟩) (fun J J J J=>⟨Nat.le_refl _,rfl⟩) (fun ks r ih h hl=>?_) (fun ks ih h hl=>?_) ff ff (fun J J=>ff)
  (fun J J=>⟨rfl,fun h=>absurd h (Nat.not_succ_le_zero _),Nat.le_refl _⟩) (fun k ks ih ihs h hl=>?_) k
 ·have q:=ih (aT h).2 (Nat.le_trans (Nat.le_max_right 1 _) hl)
  exact⟨q.2.2,aI (rj (Nat.le_trans q.2.2 (eq_441 hl))) q.1⟩
 ·have q:=ih (aT h).2 hl
  have c:=q.2.1 (Nat.le_of_ble_eq_true (aT (aT h).1).1)
  exact⟨c,aI (aI (aT (aT h).1).1 (rj (Nat.le_trans c (eq_441 hl)))) q.1⟩
 ·have p:=eq_241 (aT h).1
  have a:=ih (aT h).1 (sj hl rfl)
  have b:=ihs (aT h).2 (eq_18 hl rfl)
  have em:Nat.max 1 (lf k+lfs ks)=lf k+lfs ks:=Nat.max_eq_right (Nat.le_trans p (Nat.le_add_right _ _))
  refine⟨aI a.2 b.1,fun J=>?_,?_⟩
  ·show cn k+cns ks≤gU (lf k+lfs ks)
   cases ks with
   | nil=>exact a.1
   | cons x xs=>exact Nat.le_trans (Nat.add_le_add a.1 (b.2.1 (Nat.succ_le_succ (Nat.zero_le _)))) (eq_440 p (Nat.le_trans (Nat.succ_le_succ (Nat.zero_le _)) (eq_40 (aT h).2)) hl).1
  ·show cn k*cnp ks≤gU (Nat.max 1 (lf k+lfs ks))
   rw[em]
   cases ks with
   | nil=>exact Nat.le_trans (Nat.le_of_eq (Nat.mul_one _)) a.1
   | cons x xs=>
    have l1:1≤lfs (x::xs):=Nat.le_trans (Nat.succ_le_succ (Nat.zero_le _)) (eq_40 (aT h).2)
    have c:=b.2.2
    rw[show Nat.max 1 (lfs (x::xs))=lfs (x::xs) from Nat.max_eq_right l1] at c
    exact Nat.le_trans (Nat.mul_le_mul a.1 c) (eq_440 p l1 hl).2
theorem eq_964 {a b c d:Nat}(h:a=b)(k:c=d):a+c=b+d:=by rw[h,k]
theorem eq_442 {ks:List Kd}(h:∀ k∈ks,sB k=cn k):sBp ks=cnp ks:=by
 induction ks with
 | nil=>rfl
 | cons k ks ih=>exact(Nat.mul_comm _ _).trans (congr (congrArg (·*·) (h k mem_cons_self)) (ih fun x hx=>h x (mem_cons_of_mem _ hx)))
theorem eq_443 (k:Kd):sB k=cn k:=
 Kd.rec (motive_1:=fun k=>sB k=cn k) (motive_2:=fun ks=>sBs ks=cns ks∧∀ k∈ks,sB k=cn k) rfl (fun J=>rfl) (fun J=>rfl) (fun J=>rfl) (fun J=>rfl) (fun J J=>rfl) (fun J J ih=>eq_442 ih.2) (fun J ih=>ih.1) rfl rfl (fun J J=>rfl) ⟨rfl,fun J h=>nomatch h⟩ (fun J J ih ihs=>⟨eq_964 ih ihs.1,fun x hx=>(mem_cons.mp hx).elim (fun e=>e▸ih) (ihs.2 x)⟩) k
theorem ud (k:Kd):lL k=true→wB k≤cn k*mm k:=by
 refine Kd.rec (motive_1:=fun k=>lL k=true→wB k≤cn k*mm k) (motive_2:=fun ks=>coks ks=true→wBs ks≤cns ks*mmx ks∧wBp ks≤cnp ks*mms ks) (fun J=>Nat.le_refl _) (fun J J=>Nat.le_refl _) (fun J J=>Nat.le_refl _) (fun J J=>Nat.le_refl _) (fun J J=>Nat.le_refl _) (fun J J J=>Nat.le_refl _) (fun ks r ih h=>?_) (fun ks ih h=>?_) (fun J=>Nat.le_refl _) (fun J=>Nat.le_refl _) (fun J J J=>Nat.le_refl _)
  (fun J=>⟨Nat.le_refl _,Nat.zero_le _⟩) (fun k ks ih ihs h=>⟨?_,?_⟩) k
 ·show wBp ks+4≤cnp ks*(mms ks+4)
  rw[Nat.mul_add]
  exact Nat.add_le_add (ih (aT h).2).2 (Nat.le_mul_of_pos_left 4 (eq_190 ks (aT h).2))
 ·have p:1≤cns ks:=eq_58 (.uni ks) h
  show wBs ks+1≤cns ks*(mmx ks+1)
  rw[Nat.mul_succ]
  exact Nat.add_le_add (ih (aT h).2).1 p
 ·show wB k+wBs ks≤(cn k+cns ks)*Nat.max (mm k) (mmx ks)
  rw[Nat.add_mul]
  exact Nat.add_le_add (Nat.le_trans (ih (aT h).1) (Nat.mul_le_mul_left _ (Nat.le_max_left _ _))) (Nat.le_trans (ihs (aT h).2).1 (Nat.mul_le_mul_left _ (Nat.le_max_right _ _)))
 ·show wBp ks+sBp ks*wB k≤cn k*cnp ks*(mm k+mms ks)
  rw[Nat.mul_add,Nat.add_comm,eq_442 fun k J=>eq_443 k]
  refine Nat.add_le_add ?_ (Nat.le_trans (ihs (aT h).2).2 ?_)
  ·rw[Nat.mul_comm (cn k),Nat.mul_assoc]
   exact Nat.mul_le_mul_left (cnp ks) (ih (aT h).1)
  ·rw[Nat.mul_assoc]
   exact Nat.le_mul_of_pos_left _ (eq_58 k (aT h).1)
theorem ue (k:Kd):gd k=true→nd k≤lf k*mm k:=by
 refine Kd.rec (motive_1:=fun k=>gd k=true→nd k≤lf k*mm k) (motive_2:=fun ks=>gds ks=true→nds ks≤lfs ks*mmx ks∧nds ks≤lfs ks*mms ks) ff (fun J J=>qZ rfl) (fun J=>ff) (fun J J=>qZ rfl) (fun J J=>qZ rfl) (fun J J J=>qZ rfl) (fun ks r ih h=>?_) (fun ks ih h=>?_) ff ff (fun J J=>ff)
  (fun J=>⟨Nat.le_refl _,Nat.le_refl _⟩) (fun k ks ih ihs h=>?_) k
 ·show nds ks+2≤Nat.max 1 (lfs ks)*(mms ks+4)
  rw[Nat.mul_add]
  exact Nat.add_le_add (Nat.le_trans (ih (aT h).2).2 (Nat.mul_le_mul_right _ (Nat.le_max_right _ _))) (Nat.le_trans (qZ rfl) (Nat.le_mul_of_pos_left 4 (Nat.le_max_left _ _)))
 ·show nds ks+1≤lfs ks*(mmx ks+1)
  rw[Nat.mul_succ]
  exact Nat.add_le_add (ih (aT h).2).1 (eq_241 (k:=.uni ks) h)
 ·have a:=ih (aT h).1
  have b:=ihs (aT h).2
  constructor
  ·show nd k+nds ks≤(lf k+lfs ks)*Nat.max (mm k) (mmx ks)
   rw[Nat.add_mul]
   exact Nat.add_le_add (Nat.le_trans a (Nat.mul_le_mul_left _ (Nat.le_max_left _ _))) (Nat.le_trans b.1 (Nat.mul_le_mul_left _ (Nat.le_max_right _ _)))
  ·show nd k+nds ks≤(lf k+lfs ks)*(mm k+mms ks)
   rw[Nat.add_mul]
   exact Nat.add_le_add (Nat.le_trans a (Nat.mul_le_mul_left _ (Nat.le_add_right _ _))) (Nat.le_trans b.2 (Nat.mul_le_mul_left _ (Nat.le_add_left _ _)))
end Mine
end
section
set_option genSizeOf false
set_option genCtorIdx false
set_option genInjectivity false
namespace Mine
open PySem
structure Me (d l m:Nat)(k:Kd):Prop where
 g:gd k=true
 d:k.dep≤d
 l:lf k≤l
 m:mm k≤m
theorem Me.mono {d l m d' l' m':Nat}{k:Kd}(h:Me d l m k)(hd:d≤d')(hl:l≤l')(hm:m≤m'):Me d' l' m' k:=⟨h.g,Nat.le_trans h.d hd,Nat.le_trans h.l hl,Nat.le_trans h.m hm⟩
theorem Me.ok {k:Kd}(h:Me 10 10 80 k):Ok k:=by
 have c:=tQ k h.g h.l
 have e:gU (lf k)≤36:=tP (b:=10) h.l (Nat.le_refl _)
 exact⟨(tH k h.g (u1 h.l rfl)).1,c.2,h.d,Nat.lt_of_le_of_lt (Nat.le_trans (ud k c.2) (Nat.mul_le_mul (Nat.le_trans c.1 e) h.m)) (qZ rfl)⟩
theorem Me.txt {n:Nat}{k:Kd}(h:Me 10 10 80 k)(hn:16≤n):bm n k 90000:=by
 obtain⟨n,rfl⟩:∃ m,n=(m+10)+6:=⟨n - 16,u3 (b:=16) hn rfl⟩
 have t:nd k≤900:=Nat.le_trans (ue k h.g) (Nat.le_trans (Nat.mul_le_mul h.l h.m) (qZ rfl))
 intro σ K k'
 exact uc (n+10) (k:=k) (Nat.le_trans h.d (Nat.le_add_left _ _)) (tH k h.g (u1 h.l rfl)).2 t fun t' ht=>k' t' (ht.mono (Nat.le_trans (Nat.mul_le_mul_left 100 t) (qZ rfl)))
theorem eq_242 {k:Kd}(h:gd k=true):k≠.bot∧k≠.nam ai∧jP k=false∧kk k=false∧lM k=false:=by
 refine⟨fun e=>?_,fun e=>?_,?_⟩
 ·subst e;exact ff h
 ·subst e;exact rN _ (rn (m:=ai) h) rfl
 ·cases k<;>first | exact⟨rfl,rfl,rfl⟩ | exact ff h
theorem eq_444 {ks:List Kd}:wBs ks=(ks.map wB).sum:=by
 induction ks with
 | nil=>rfl
 | cons k ks ih=>exact congrArg (wB k+·) ih
theorem eq_965 {ks:List Kd}(h:o8 ks=true){x:Kd}(hx:x∈ks):fE x=false:=by
 have q:=List.all_eq_true.mp h x hx
 cases e:fE x with
 | false=>rfl
 | true=>rw[e] at q;exact ff q
theorem sK {k:Kd}(h:gd k=true):(∀ x∈aX k,gd x=true∧fE x=false∧x.dep≤k.dep∧mm x≤mm k)∧((aX k).map lf).sum=lf k∧aX k≠[]∧((aX k).map wB).sum≤wB k:=by
 have one:fE k=false→aX k=[k]→(∀ x∈aX k,gd x=true∧fE x=false∧x.dep≤k.dep∧mm x≤mm k)∧((aX k).map lf).sum=lf k∧aX k≠[]∧((aX k).map wB).sum≤wB k:=fun u e=>by
  rw[e]
  exact⟨fun x hx=>by rw[mem_singleton.mp hx];exact⟨h,u,Nat.le_refl _,Nat.le_refl _⟩,Nat.add_zero _,(fun e=>nomatch e),Nat.le_refl _⟩
 cases k with
 | uni ks=>
  refine⟨fun x hx=>⟨sX.mp (aT h).2 x hx,eq_965 (aT (aT h).1).2 hx,Nat.le_succ_of_le (su (ks:=ks) hx),Nat.le_succ_of_le (eq_958 (ks:=ks) hx)⟩,tq.symm,fun e=>?_,Nat.le_trans (Nat.le_of_eq eq_444.symm) (Nat.le_succ _)⟩
  cases ks with
  | nil=>exact ff h
  | cons x xs=>exact absurd (show x::xs=[] from e) (fun e=>nomatch e)
 | _=>exact one rfl rfl
theorem eq_445 {k:Kd}(h:gd k=true)(hd:k.dep≤20)(hl:lf k≤60):ou k:=by
 have p:=sK h
 refine⟨fun x hx=>⟨(p.1 x hx).2.1,(eq_242 (p.1 x hx).1).1,Nat.le_trans (p.1 x hx).2.2.1 hd⟩,?_⟩
 have q:=eq_40 (sX.mpr fun x hx=>(p.1 x hx).1)
 rw[tq,p.2.1] at q
 exact Nat.le_trans q hl
theorem eq_41 {f:Kd→Nat}{xs:List Kd}{x:Kd}(h:x∈xs):f x≤(xs.map f).sum:=by
 induction xs with
 | nil=>cases h
 | cons y xs ih=>
  rcases mem_cons.mp h with rfl | h
  ·exact Nat.le_add_right _ _
  ·exact Nat.le_trans (ih h) (Nat.le_add_left _ _)
theorem eq_966 {f:Kd→Nat}(xs:List Kd):∀ s:List Kd,((gK s xs).map f).sum≤(s.map f).sum+(xs.map f).sum:=by
 induction xs with
 | nil=>exact fun s=>Nat.le_add_right _ _
 | cons x xs ih=>
  intro s
  show ((bif s.contains x then gK s xs else gK (s++[x]) xs).map f).sum≤(s.map f).sum+(f x+(xs.map f).sum)
  cases s.contains x with
  | true=>exact Nat.le_trans (ih s) (Nat.add_le_add_left (Nat.le_add_left _ _) _)
  | false=>
   refine Nat.le_trans (ih (s++[x])) ?_
   rw[map_append,List.sum_append,Nat.add_assoc]
   exact Nat.le_refl _
theorem eq_446 {f:Kd→Nat}{a b:Kd}:((fC a b).map f).sum≤((aX a).map f).sum+((aX b).map f).sum:=by
 have q:=eq_966 (f:=f) (aX a++aX b) []
 rw[map_append,List.sum_append] at q
 exact Nat.le_trans q (Nat.le_of_eq (Nat.zero_add _))
section
variable {a b k:Kd}
theorem eq_129 (ha:gd a=true)(hb:gd b=true):∀ x∈fC a b,gd x=true∧fE x=false∧x.dep≤Nat.max a.dep b.dep∧mm x≤Nat.max (mm a) (mm b):=by
 intro x hx
 rcases eq_75.mp hx with hx | hx
 ·have q:=(sK ha).1 x hx
  exact⟨q.1,q.2.1,Nat.le_trans q.2.2.1 (Nat.le_max_left _ _),Nat.le_trans q.2.2.2 (Nat.le_max_left _ _)⟩
 ·have q:=(sK hb).1 x hx
  exact⟨q.1,q.2.1,Nat.le_trans q.2.2.1 (Nat.le_max_right _ _),Nat.le_trans q.2.2.2 (Nat.le_max_right _ _)⟩
theorem eq_967 (ha:gd a=true):fC a b≠[]:=fun e=>by
 have h:=(sK ha).2.2.1
 cases q:aX a with
 | nil=>exact h q
 | cons x xs=>
  have m:x∈fC a b:=eq_75.mpr (.inl (by rw[q];exact mem_cons_self))
  rw[e] at m
  cases m
theorem eq_447 {a b c d:Nat}(h:a≤c)(k:b≤d):Nat.max a b≤Nat.max c d:=Nat.max_le.mpr ⟨Nat.le_trans h (Nat.le_max_left _ _),Nat.le_trans k (Nat.le_max_right _ _)⟩
theorem eq_130 (ha:gd a=true)(hb:gd b=true):((fC a b).map lf).sum≤lf a+lf b∧((fC a b).map wB).sum≤wB a+wB b:=by
 have sl:=eq_446 (f:=lf) (a:=a) (b:=b)
 rw[(sK ha).2.1,(sK hb).2.1] at sl
 exact⟨sl,Nat.le_trans eq_446 (Nat.add_le_add (sK ha).2.2.2 (sK hb).2.2.2)⟩
set_option tactic.hygienic true in
theorem eq_243 (h:UnOf a b k){d l m d' l' m':Nat}(ha:Me d l m a)(hb:Me d' l' m' b):Me (Nat.max d d'+1) (l+l') (Nat.max m m'+1) k∧wB k≤wB a+wB b+1:=by
 have u:=eq_129 ha.g hb.g
 have s:=eq_130 ha.g hb.g
 have d1:Nat.max a.dep b.dep≤Nat.max d d':=eq_447 ha.d hb.d
 have m1:Nat.max (mm a) (mm b)≤Nat.max m m':=eq_447 ha.m hb.m
 have l1:=Nat.le_trans s.1 (Nat.add_le_add ha.l hb.l)
 cases h with
 | one e=>
  have q:=u k (by rw[e];exact mem_cons_self)
  rw[e] at l1 s
  exact⟨⟨q.1,Nat.le_succ_of_le (Nat.le_trans q.2.2.1 d1),l1,Nat.le_succ_of_le (Nat.le_trans q.2.2.2 m1)⟩,Nat.le_succ_of_le s.2⟩
 | many hp hl=>
  rename_i zs
  have mem:=fun x (hx:x∈zs)=>u x (hp.mem_iff.mp hx)
  have e1:(zs.map lf).sum=((fC a b).map lf).sum:=(hp.map lf).sum_nat
  have e2:(zs.map wB).sum=((fC a b).map wB).sum:=(hp.map wB).sum_nat
  refine⟨⟨aI (aI (rj (Nat.le_trans (Nat.le_of_succ_le hl) (Nat.le_of_eq hp.length_eq.symm))) (List.all_eq_true.mpr fun x hx=>by rw[(mem x hx).2.1];rfl)) (sX.mpr fun x hx=>(mem x hx).1),Nat.succ_le_succ (Nat.le_trans (eq_960 fun x hx=>(mem x hx).2.2.1) d1),?_,Nat.succ_le_succ (Nat.le_trans (eq_959 fun x hx=>(mem x hx).2.2.2) m1)⟩,Nat.succ_le_succ ?_⟩
  ·show lfs zs≤_
   rw[tq,e1]
   exact l1
  ·show wBs zs≤_
   rw[eq_444,e2]
   exact s.2
theorem eq_131 {n:Nat}{σ:ak}{K:KP}(hn:17≤n)(ha:Me 10 10 80 a)(hb:Me 10 10 80 b)(h:∀ k,UnOf a b k→K (.p (kD k)) σ):ae an n 2 [.p (.lst [kD a,kD b])] σ K:=by
 obtain⟨n,rfl⟩:∃ m,n=m+1:=⟨n - 1,u3 hn rfl⟩
 have u:=eq_129 ha.g hb.g
 have len:=eq_40 (sX.mpr fun x hx=>(u x hx).1)
 rw[tq] at len
 refine eq_957 (eq_445 ha.g (u1 ha.d rfl) (u1 ha.l rfl)) (eq_445 hb.g (u1 hb.d rfl) (u1 hb.l rfl)) (fun x hx=>⟨?_,(eq_242 (u x hx).1).2.1⟩) (eq_967 ha.g) (u1 (Nat.le_trans len (Nat.le_trans (eq_130 ha.g hb.g).1 (Nat.add_le_add ha.l hb.l))) rfl) h
 have ux:=u x hx
 have lx:lf x≤10:=by
  rcases eq_75.mp hx with hx | hx
  ·exact Nat.le_trans (eq_41 hx) (Nat.le_trans (Nat.le_of_eq (sK ha.g).2.1) ha.l)
  ·exact Nat.le_trans (eq_41 hx) (Nat.le_trans (Nat.le_of_eq (sK hb.g).2.1) hb.l)
 intro σ K k'
 exact Me.txt (n:=n) ⟨ux.1,Nat.le_trans ux.2.2.1 (Nat.max_le.mpr ⟨ha.d,hb.d⟩),lx,Nat.le_trans ux.2.2.2 (Nat.max_le.mpr ⟨ha.m,hb.m⟩)⟩ (Nat.le_of_succ_le_succ hn) k'
end
end Mine
end
section
set_option genSizeOf false
set_option genInjectivity false
namespace Mine
open PySem
noncomputable def urn (a b:Int):Cell:=.list [.p (.int a),.p (.int b)]
def dp (b:Int):Prop:=0≤b∧b≤3000000000
theorem sL {P:Nat→Prop}{n d:Nat}(p:P n)(q:d<n→P d)(h:d<n+1):P d:=(Nat.lt_succ_iff_lt_or_eq.mp h).elim q fun e=>e▸p
theorem eq_76 {P:Nat→Prop}{d:Nat}(p0:P 0)(p1:P 1)(h:d<2):P d:=sL p1 (sL p0 fun h=>absurd h (Nat.not_lt_zero _)) h
theorem eq_448 {P:Nat→Prop}{d:Nat}(p0:P 0)(p1:P 1)(p2:P 2)(h:d<3):P d:=sL p2 (eq_76 p0 p1) h
theorem tv {P:Nat→Prop}{d:Nat}(p0:P 0)(p1:P 1)(p2:P 2)(p3:P 3)(h:d<4):P d:=sL p3 (eq_448 p0 p1 p2) h
theorem eq_449 {P:Nat→Prop}{d:Nat}(p0:P 0)(p1:P 1)(p2:P 2)(p3:P 3)(p4:P 4)(p5:P 5)(h:d<6):P d:=sL p5 (sL p4 (tv p0 p1 p2 p3)) h
theorem eq_968 {P:Nat→Prop}{d:Nat}(p9:P 9)(p8:P 8)(p7:P 7)(p6:P 6)(p0:P 0)(p1:P 1)(p2:P 2)(p3:P 3)(p4:P 4)(p5:P 5)(h:d<10):P d:=sL p9 (sL p8 (sL p7 (sL p6 (eq_449 p0 p1 p2 p3 p4 p5)))) h
theorem sM {n:Nat}(hn:1≤n){a b:Int}{t:Nat}{σ:ak}{K:KP}(hb:dp b)(ht:1≤t)(ht2:t≤100)(k:∀ (d:Nat) (a' b':Int),d<t→dp b'→K (.p (.int d)) (urn a' b'::σ)) :
  ae an n 61 [.ref 0,.p (.int t)] (urn a b::σ) K:=by
 obtain⟨n,rfl⟩:∃ m,n=m+1:=⟨n - 1,by exact rq hn⟩
 have hp:(0:Int)<(t:Int):=Int.natCast_pos.mpr ht
 have hq:(t:Int)≠0:=Int.ne_of_gt hp
 have h0:decide ((0:Int)<(t:Int))=true:=decide_eq_true hp
 have hs:dD (t:Int)=true:=eq_101 (by exact u1 ht2 rfl)
 refine rg rfl rfl (rk rfl ?_)
 conv=>whnf
 cases q:decide ((0:Int)<a) with
 | true=>
  refine rF h0 ?_
  conv=>whnf
  rw[h0]
  conv=>whnf
  rw[hs]
  have h1:0≤a % (t:Int):=Int.emod_nonneg _ hq
  have h2:a % (t:Int)<t:=Int.emod_lt_of_pos _ hp
  obtain⟨d,hd⟩:=Int.eq_ofNat_of_zero_le h1
  have:=k d (a / (t:Int)) b (Int.ofNat_lt.mp (hd▸h2)) hb
  rw[← hd] at this
  exact this
 | false=>
  have sb:dD b=true:=by
   obtain⟨m,rfl⟩:=Int.eq_ofNat_of_zero_le hb.1
   exact eq_101 (Nat.le_trans (Int.ofNat_le.mp hb.2) (qZ rfl))
  conv=>whnf
  rw[sb]
  refine rF h0 ?_
  conv=>whnf
  have h1:0≤(b*69621+12011) % 2147483647:=Int.emod_nonneg _ (by decide)
  have h3:(b*69621+12011) % 2147483647<2147483647:=Int.emod_lt_of_pos _ (by decide)
  generalize hb':(b*69621+12011) % 2147483647=b' at h1 h3
  have h4:0≤b' / 17 % (t:Int):=Int.emod_nonneg _ hq
  have h5:b' / 17 % (t:Int)<t:=Int.emod_lt_of_pos _ hp
  obtain⟨d,hd⟩:=Int.eq_ofNat_of_zero_le h4
  have:=k d a b' (Int.ofNat_lt.mp (hd▸h5)) ⟨h1,Int.le_trans (Int.le_of_lt h3) (by decide)⟩
  rw[← hd] at this
  exact this
theorem tx {n:Nat}(hn:2≤n){a b:Int}{σ:ak}{K:KP}(hb:dp b)(k:∀ (m:Nat) (a' b':Int),ao.contains m=true→dp b'→K (.p (kD (.nam m))) (urn a' b'::σ)) :
  ae an n 62 [.ref 0] (urn a b::σ) K:=by
 obtain⟨n,rfl⟩:∃ m,n=m+1:=⟨n - 1,by exact rq hn⟩
 refine rg rfl rfl (rk rfl ?_)
 conv=>whnf
 refine sM (t:=6) (by exact Nat.le_of_succ_le_succ hn) hb (by exact qZ rfl) (by exact qZ rfl) fun d a' b' hd hb'=>?_
 apply eq_449 (d:=d) _ _ _ _ _ _ hd
 all_goals exact k _ _ _ rfl hb'
theorem eq_244 {n:Nat}(hn:1≤n){row:List Kd}{r:Option Nat}{σ:ak}{K:KP}(hz:row.length≤300)(k:K (.p (kD (.tup row r))) σ):ae an n 1 [.p (.lst (kDs row)),.p (mX r)] σ K:=by
 obtain⟨n,rfl⟩:∃ m,n=m+1:=⟨n - 1,by exact rq hn⟩
 exact eq_722 hz k
inductive Nx (P:Kd→Prop):Kd→Prop
 | nam {m:Nat}:ao.contains m=true→Nx P (.nam m)
 | fn {m:Nat}:m=mW∨m=oh→Nx P (.fn m)
 | typ {m:Nat}:ao.contains m=true→Nx P (.typ m)
 | arr {m i:Nat}:ao.contains m=true→i=1∨i=2→Nx P (.arr m i)
 | un {a b k:Kd}:P a→P b→UnOf a b k→Nx P k
 | tup {ks:List Kd}{r:Option Nat}:ks.length≤2→(∀ k∈ks,P k)→qj r=true→Nx P (.tup ks r)
def cN (n:Nat) (f:Int)(P:Kd→Prop):Prop:=∀ {a b:Int}{σ:ak}{K:KP},dp b→(∀ (k:Kd) (a' b':Int),P k→dp b'→K (.p (kD k)) (urn a' b'::σ))→ae an n 63 [.ref 0,.p (.int f)] (urn a b::σ) K
theorem eq_450 {n:Nat}(hn:3≤n):cN n 0 (fun k=>∃ m,k=.nam m∧ao.contains m=true):=by
 intro a b σ K hb k
 obtain⟨n,rfl⟩:∃ m,n=m+1:=⟨n - 1,by exact rq hn⟩
 refine rg rfl rfl (rk rfl ?_)
 conv=>whnf
 refine tx (by exact Nat.le_of_succ_le_succ hn) hb fun m a' b' hm hb'=>?_
 exact k _ a' b' ⟨m,rfl,hm⟩ hb'
noncomputable def qW:List T:=lK 6 cS.body
noncomputable def qk:T:=iJ 6 cS.body
noncomputable def qJ:T:=iJ 7 cS.body
theorem eq_969:cS.body=mY qW qk:=by kernel_rfl
noncomputable def qK (f:Int) (d:Nat):aN:=[(aW,.ref 0),(dm,.p (.int f)),(bS,.p (.int d))]
theorem eq_451 {P:Kd→Prop}{x:Kd}(h:P x):∀ q∈[x],P q:=fun q hq=>mem_singleton.mp hq▸h
theorem eq_970 {P:Kd→Prop}{x y:Kd}(h:P x)(h':P y):∀ q∈[x,y],P q:=fun q hq=>(mem_cons.mp hq).elim (fun e=>e▸h) (eq_451 h' q)
theorem eq_245 {n:Nat}{f:Int}{P:Kd→Prop}(hn:20≤n)(ih:cN n (f - 1) P){a b:Int}{σ:ak}{d:Nat}{K:KR}(hb:dp b)
  (k:∀ (row:List Kd) (a b:Int),row.length≤2→(∀ q∈row,P q)→dp b→bu an.tab (ae an n) qJ (de bW (.p (.lst (kDs row))) (qK f d)) (urn a b::σ) K):bu an.tab (ae an n) qk (qK f d) (urn a b::σ) K:=by
 generalize hR:bu an.tab (ae an n) qJ=R at k
 conv=>whnf
 refine sM (t:=3) (by exact Nat.le_trans (qZ rfl) hn) hb (qZ rfl) (qZ rfl) fun e a b he hb=>?_
 apply eq_448 (d:=e) _ _ _ he
 ·subst hR
  exact k [] a b (qZ rfl) (fun q hq=>nomatch hq) hb
 ·conv=>whnf
  refine ih hb fun x a b hx hb=>?_
  subst hR
  exact k [x] a b (qZ rfl) (eq_451 hx) hb
 ·conv=>whnf
  refine ih hb fun x a b hx hb=>?_
  conv=>whnf
  refine ih hb fun y a b hy hb=>?_
  subst hR
  exact k [x,y] a b (qZ rfl) (eq_970 hx hy) hb
theorem eq_452 {n:Nat}{f:Int}{P:Kd→Prop}(hn:20≤n)(hf:decide (0<f)=true)(ih:cN n (f - 1) P)(hP:∀ k,P k→Me 10 10 80 k):cN (n+1) f (Nx P):=by
 intro a b σ K hb k
 refine rg rfl rfl (rk rfl ?_)
 refine eq_6 (ρ:=[(aW,.ref 0),(dm,.p (.int f))]) rfl ?_
 rw[eq_969]
 refine eq_349 ?_
 generalize hX:bu an.tab (ae an n) qk=X
 refine rF hf ?_
 conv=>whnf
 refine sM (t:=10) (by exact Nat.le_trans (qZ rfl) hn) hb (qZ rfl) (qZ rfl) fun d a b hd hb=>?_
 have h2:2≤n:=Nat.le_trans (qZ rfl) hn
 apply eq_968 (d:=d) _ _ _ _ _ _ _ _ _ _ hd
 ·conv=>whnf
  subst hX
  refine eq_245 (d:=9) hn ih hb fun row a b h1 h2 hb=>?_
  conv=>whnf
  refine tx (by exact Nat.le_trans (qZ rfl) hn) hb fun m a b hm hb=>?_
  exact eq_244 (by exact Nat.le_trans (qZ rfl) hn) (row:=row) (r:=some m) (by exact u1 h1 rfl) (k _ a b (.tup h1 h2 hm) hb)
 ·conv=>whnf
  subst hX
  refine eq_245 (d:=8) hn ih hb fun row a b h1 h2 hb=>?_
  conv=>whnf
  exact eq_244 (by exact Nat.le_trans (qZ rfl) hn) (row:=row) (r:=none) (by exact u1 h1 rfl) (k _ a b (.tup h1 h2 rfl) hb)
 ·conv=>whnf
  subst hX
  refine eq_245 (d:=7) hn ih hb fun row a b h1 h2 hb=>?_
  conv=>whnf
  exact eq_244 (by exact Nat.le_trans (qZ rfl) hn) (row:=row) (r:=none) (by exact u1 h1 rfl) (k _ a b (.tup h1 h2 rfl) hb)
 ·conv=>whnf
  refine ih hb fun x a b hx hb=>?_
  conv=>whnf
  refine ih hb fun y a b hy hb=>?_
  conv=>whnf
  refine eq_131 (a:=x) (b:=y) (by exact Nat.le_trans (qZ rfl) hn) (hP x hx) (hP y hy) fun z hz=>?_
  exact k z a b (.un hx hy hz) hb
 ·conv=>whnf
  exact tx h2 hb fun m a' b' hm hb'=>k _ a' b' (.nam hm) hb'
 ·conv=>whnf
  exact tx h2 hb fun m a' b' hm hb'=>k _ a' b' (.nam hm) hb'
 ·conv=>whnf
  exact tx h2 hb fun m a' b' hm hb'=>k _ a' b' (.nam hm) hb'
 ·conv=>whnf
  refine sM (t:=2) (by exact Nat.le_trans (qZ rfl) hn) hb (qZ rfl) (qZ rfl) fun d a b hd hb=>?_
  apply eq_76 (d:=d) _ _ hd
  ·exact k (.fn mW) a b (.fn (.inl rfl)) hb
  ·exact k (.fn oh) a b (.fn (.inr rfl)) hb
 ·conv=>whnf
  exact tx h2 hb fun m a' b' hm hb'=>k (.typ m) a' b' (.typ hm) hb'
 ·conv=>whnf
  refine eq_450 (by exact Nat.le_trans (qZ rfl) hn) hb fun q a b hq hb=>?_
  obtain⟨m,rfl,hm⟩:=hq
  conv=>whnf
  refine sM (t:=2) (by exact Nat.le_trans (qZ rfl) hn) hb (qZ rfl) (qZ rfl) fun d a b hd hb=>?_
  apply eq_76 (d:=d) _ _ hd
  ·exact k (.arr m 1) a b (.arr hm (.inl rfl)) hb
  ·exact k (.arr m 2) a b (.arr hm (.inr rfl)) hb
end Mine
end
section
set_option genSizeOf false
set_option genCtorIdx false
set_option genInjectivity false
namespace Mine
open PySem
structure Dr (d l m w:Nat)(k:Kd):Prop where
 me:Me d l m k
 w:wB k≤w
set_option tactic.hygienic true in
theorem eq_453 {d l m w s:Nat}{k:Kd}(hd:1≤d)(hl:1≤l)(hm:5≤m)(hw:5≤w)(hl2:l≤10)(hs:gU l≤s)(hs1:1≤s)(h:Nx (Dr d l m w) k):Dr (d+1) (2*l) (2*m+4) (w+s*w+4) k:=by
 have hww:w≤s*w:=Nat.le_mul_of_pos_left _ hs1
 have l2:l≤2*l:=Nat.le_mul_of_pos_left l (qZ rfl)
 have m2:m≤2*m:=Nat.le_mul_of_pos_left m (qZ rfl)
 have L1:1≤2*l:=Nat.le_trans hl l2
 have L3:5≤2*m+4:=Nat.le_trans hm (Nat.le_trans m2 (Nat.le_add_right _ 4))
 have L4:5≤w+s*w+4:=Nat.le_trans hw (Nat.le_trans (Nat.le_add_right w (s*w)) (Nat.le_add_right _ 4))
 cases h with
 | nam h=>exact⟨⟨h,Nat.le_add_left 1 d,L1,L3⟩,L4⟩
 | fn h=>exact⟨⟨by rcases h with rfl | rfl<;>rfl,Nat.le_add_left 1 d,L1,L3⟩,L4⟩
 | typ h=>exact⟨⟨h,Nat.le_add_left 1 d,L1,L3⟩,L4⟩
 | arr h hi=>exact⟨⟨aI h (by rcases hi with rfl | rfl<;>rfl),Nat.le_add_left 1 d,L1,L3⟩,L4⟩
 | un ha hb hu=>
  have t:=eq_243 hu ha.me hb.me
  exact⟨t.1.mono (Nat.succ_le_succ (Nat.max_le.mpr ⟨Nat.le_refl _,Nat.le_refl _⟩)) (Nat.le_of_eq (Nat.two_mul l).symm) (Nat.add_le_add (Nat.le_trans (Nat.max_le.mpr ⟨Nat.le_refl _,Nat.le_refl _⟩) m2) (qZ rfl)),Nat.le_trans t.2 (Nat.add_le_add (Nat.add_le_add ha.w (Nat.le_trans hb.w hww)) (qZ rfl))⟩
 | tup hk hp hr=>
  rename_i ks r
  have g:gd (.tup ks r)=true:=aI (aI (rj hk) hr) (sX.mpr fun k h=>(hp k h).me.g)
  rcases ks with _ | ⟨a,_ | ⟨b,_ | ⟨c,ks⟩⟩⟩
  ·exact⟨⟨g,Nat.le_add_left 1 d,L1,Nat.le_add_left 4 _⟩,Nat.le_add_left 4 _⟩
  ·have ha:=hp a mem_cons_self
   refine⟨⟨g,Nat.succ_le_succ (Nat.max_le.mpr ⟨ha.me.d,Nat.zero_le _⟩),Nat.max_le.mpr ⟨L1,Nat.le_trans ha.me.l l2⟩,Nat.add_le_add_right (Nat.le_trans ha.me.m m2) 4⟩,Nat.add_le_add_right ?_ 4⟩
   show 0+1*wB a≤w+s*w
   rw[Nat.zero_add,Nat.one_mul]
   exact Nat.le_trans ha.w (Nat.le_add_right _ _)
  ·have ha:=hp a mem_cons_self
   have hb:=hp b (mem_cons_of_mem _ mem_cons_self)
   have sb:sB b≤s:=Nat.le_trans (Nat.le_of_eq (eq_443 b)) (Nat.le_trans (tQ b hb.me.g (Nat.le_trans hb.me.l hl2)).1 (Nat.le_trans (tP hb.me.l hl2) hs))
   refine⟨⟨g,Nat.succ_le_succ (Nat.max_le.mpr ⟨ha.me.d,Nat.max_le.mpr ⟨hb.me.d,Nat.zero_le _⟩⟩),Nat.max_le.mpr ⟨L1,?_⟩,Nat.add_le_add_right ?_ 4⟩,Nat.add_le_add_right ?_ 4⟩
   ·rw[Nat.two_mul];exact Nat.add_le_add ha.me.l hb.me.l
   ·rw[Nat.two_mul];exact Nat.add_le_add ha.me.m hb.me.m
   ·show 0+1*wB b+1*sB b*wB a≤w+s*w
    rw[Nat.zero_add,Nat.one_mul,Nat.one_mul]
    exact Nat.add_le_add hb.w (Nat.mul_le_mul sb ha.w)
  ·exact absurd hk (fun q=>Nat.not_succ_le_zero _ (Nat.le_of_succ_le_succ (Nat.le_of_succ_le_succ q)))
abbrev qL:Kd→Prop:=Dr 1 1 5 5
abbrev ql:Kd→Prop:=Dr 2 2 14 14
abbrev lN:Kd→Prop:=Dr 3 4 32 46
theorem cN.mono {n:Nat}{f:Int}{P Q:Kd→Prop}(h:cN n f P)(pq:∀ k,P k→Q k):cN n f Q:=fun {a b σ K} hb k=>h hb fun x a' b' hx hb'=>k x a' b' (pq x hx) hb'
theorem eq_17 {d l m w:Nat}{k:Kd}(h:Dr d l m w k)(hd:d≤10)(hl:l≤10)(hm:m≤80):Me 10 10 80 k:=h.me.mono hd hl hm
theorem eq_971 {n:Nat}(hn:20≤n):cN n 0 qL:=cN.mono (eq_450 (Nat.le_trans (qZ rfl) hn)) fun k h=>by
 obtain⟨m,rfl,hm⟩:=h
 exact⟨⟨hm,qZ rfl,qZ rfl,qZ rfl⟩,qZ rfl⟩
theorem eq_454 {n:Nat}(hn:30≤n):cN n 1 ql:=by
 obtain⟨n,rfl⟩:∃ m,n=m+1:=⟨n - 1,u3 hn rfl⟩
 exact cN.mono (eq_452 (n:=n) (f:=1) (P:=qL) (u2 hn rfl) rfl (eq_971 (u2 hn rfl)) fun k h=>eq_17 h (qZ rfl) (qZ rfl) (qZ rfl)) fun k h=>eq_453 (d:=1) (l:=1) (m:=5) (w:=5) (s:=1) (qZ rfl) (qZ rfl) (qZ rfl) (qZ rfl) (qZ rfl) (qZ rfl) (qZ rfl) h
theorem eq_132 {n:Nat}(hn:40≤n):cN n 2 lN:=by
 obtain⟨n,rfl⟩:∃ m,n=m+1:=⟨n - 1,u3 hn rfl⟩
 exact cN.mono (eq_452 (n:=n) (f:=2) (P:=ql) (u2 hn rfl) rfl (eq_454 (u2 hn rfl)) fun k h=>eq_17 h (qZ rfl) (qZ rfl) (qZ rfl)) fun k h=>eq_453 (d:=2) (l:=2) (m:=14) (w:=14) (s:=2) (qZ rfl) (qZ rfl) (qZ rfl) (qZ rfl) (qZ rfl) (qZ rfl) (qZ rfl) h
end Mine
end
section
set_option genSizeOf false
set_option genInjectivity false
namespace Mine
open PySem
noncomputable def qm (m:Nat):Option Nat:=(([(aG,aO),(aO,av),(cz,av),(av,bk),(aA,ay)]:List (Nat×Nat)).lookup m)
inductive Ra:Kd→Kd→Prop
 | nam {m o:Nat}:qm m=some o→Ra (.nam m) (.nam o)
 | tail {ks:List Kd}{m:Nat}:ao.contains m=true→Ra (.tup ks none) (.tup ks (some m))
 | one {x y:Kd}{r:Option Nat}:Ra x y→Ra (.tup [x] r) (.tup [y] r)
 | fst {x y z:Kd}{r:Option Nat}:Ra x y→Ra (.tup [x,z] r) (.tup [y,z] r)
 | snd {x y z:Kd}{r:Option Nat}:Ra x y→Ra (.tup [z,x] r) (.tup [z,y] r)
 | un {k y z:Kd}:ql y→UnOf k y z→Ra k z
theorem eq_972 {n:Nat}(hn:1≤n){row:List Kd}{r:Option Nat}{σ:ak}{K:KP}(hz:row.length≤300)(k:K (.p (kD (.tup row r))) σ):ae an n 1 [.p (.tup (kDs row)),.p (mX r)] σ K:=by
 obtain⟨n,rfl⟩:∃ m,n=m+1:=⟨n - 1,u3 hn rfl⟩
 exact eq_721 hz k
theorem eq_973 {m:Nat}(h:m∈ao):m=aG∨m=cz∨m=av∨m=bk∨m=aA∨m=aO∨m=ay:=
 eq_63 (P:=fun m=>m=aG∨m=cz∨m=av∨m=bk∨m=aA∨m=aO∨m=ay) (.inl rfl) (.inr (.inl rfl)) (.inr (.inr (.inl rfl))) (.inr (.inr (.inr (.inl rfl)))) (.inr (.inr (.inr (.inr (.inl rfl))))) (.inr (.inr (.inr (.inr (.inr (.inl rfl)))))) (.inr (.inr (.inr (.inr (.inr (.inr rfl)))))) m h
theorem eq_974 {n:Nat}(hn:40≤n){k:Kd}(hk:Me 10 10 80 k){ρ:aN}(h1:ρ.lookup aW=some (.ref 0))(h2:ρ.lookup ad=some (.p (kD k))){a b:Int}{σ:ak}{K:KR}(hb:dp b)(go:∀ z a' b',Ra k z→dp b'→K (.ret (.p (kD z))) ρ (urn a' b'::σ)):bu an.tab (ae an n) qd ρ (urn a b::σ) K:=by
 refine rc h2 ?_
 refine rc h1 ?_
 conv=>whnf
 refine eq_454 (Nat.le_trans (qZ rfl) hn) hb fun y a b hy hb=>?_
 refine eq_131 (a:=k) (b:=y) (Nat.le_trans (qZ rfl) hn) hk (eq_17 hy (qZ rfl) (qZ rfl) (qZ rfl)) fun z hz=>go z a b (.un hy hz) hb
def qo (D n:Nat)(σ:ak)(K:KP):Prop:=∀ {k:Kd},k.dep≤D→Me 10 10 80 k→∀ {a b:Int}{K:KP},dp b→(∀ k' a' b',Ra k k'→dp b'→K (.p (kD k')) (urn a' b'::σ))→ae an n 65 [.ref 0,.p (kD k)] (urn a b::σ) K
theorem eq_975 {n D d:Nat}(hn:40+D≤n){σ:ak}{R:T}{k:Kd}{a b:Int}{K:KP}(hd':d<4)(hd:k.dep≤D+1)(hk:Me 10 10 80 k)(hb:dp b)(ih:qo D n σ K)(go:∀ k' a' b',Ra k k'→dp b'→K (.p (kD k')) (urn a' b'::σ))(last:∀ {ρ:aN},ρ.lookup aW=some (.ref 0)→ρ.lookup ad=some (.p (kD k))→bu an.tab (ae an n) R ρ (urn a b::σ) fun r x σ=>K (kH r) σ) :
  bu an.tab (ae an n) (qe R) [(aW,.ref 0),(ad,.p (kD k)),(bS,.p (.int d))] (urn a b::σ) fun r x σ=>K (kH r) σ:=by
 have hn4:40≤n:=Nat.le_trans (Nat.le_add_right 40 D) hn
 have d4:d=0∨d=1∨d=2∨d=3:=tv (P:=fun d=>d=0∨d=1∨d=2∨d=3) (.inl rfl) (.inr (.inl rfl)) (.inr (.inr (.inl rfl))) (.inr (.inr (.inr rfl))) hd'
 cases k with
 | nam m=>
  have hm:m∈ao:=rn hk.g
  rcases d4 with rfl | rfl | rfl | rfl
  ·rcases eq_973 hm with rfl | rfl | rfl | rfl | rfl | rfl | rfl
   ·exact go (.nam aO) a b (.nam rfl) hb
   ·exact go (.nam av) a b (.nam rfl) hb
   ·exact go (.nam bk) a b (.nam rfl) hb
   ·exact last rfl rfl
   ·exact go (.nam ay) a b (.nam rfl) hb
   ·exact go (.nam av) a b (.nam rfl) hb
   ·exact last rfl rfl
  all_goals exact last rfl rfl
 | tup ks r=>
  have hks:ks.length≤2:=Nat.le_of_ble_eq_true (aT (aT hk.g).1).1
  have sub:∀ x∈ks,x.dep≤D∧Me 10 10 80 x:=fun x hx=>
   ⟨eq_36 hd hx,sX.mp (aT hk.g).2 x hx,Nat.le_succ_of_le (eq_36 (n:=9) hk.d hx),Nat.le_trans (tq (ks:=ks)▸eq_41 hx) (Nat.le_trans (Nat.le_max_right 1 _) hk.l),Nat.le_trans (eq_438 (ks:=ks)▸eq_41 hx) (Nat.le_trans (Nat.le_add_right _ 4) hk.m)⟩
  rcases d4 with rfl | rfl | rfl | rfl
  ·exact last rfl rfl
  ·cases r with
   | none=>
    conv=>whnf
    refine tx (Nat.le_trans (qZ rfl) hn4) hb fun m a b hm hb=>?_
    exact eq_972 (Nat.le_trans (qZ rfl) hn4) (row:=ks) (r:=some m) (u1 hks rfl) (go _ a b (.tail hm) hb)
   | some t=>exact last rfl rfl
  ·rcases ks with _ | ⟨x,_ | ⟨z,_ | ⟨y,ks⟩⟩⟩
   ·exact last rfl rfl
   ·conv=>whnf
    refine sM (t:=1) (Nat.le_trans (qZ rfl) hn4) hb (qZ rfl) (qZ rfl) fun d a b hd hb=>?_
    cases Nat.lt_one_iff.mp hd
    conv=>whnf
    have sx:=sub x mem_cons_self
    refine ih sx.1 sx.2 hb fun y a b hy hb=>?_
    have q:=go _ a b (.one hy) hb
    cases r<;>exact q
   ·conv=>whnf
    refine sM (t:=2) (Nat.le_trans (qZ rfl) hn4) hb (qZ rfl) (qZ rfl) fun d a b hd hb=>?_
    have d2:d=0∨d=1:=eq_76 (P:=fun d=>d=0∨d=1) (.inl rfl) (.inr rfl) hd
    rcases d2 with rfl | rfl
    ·conv=>whnf
     have sx:=sub x mem_cons_self
     refine ih sx.1 sx.2 hb fun y a b hy hb=>?_
     have q:=go _ a b (.fst hy) hb
     cases r<;>exact q
    ·conv=>whnf
     have sx:=sub z (mem_cons_of_mem _ mem_cons_self)
     refine ih sx.1 sx.2 hb fun y a b hy hb=>?_
     have q:=go _ a b (.snd hy) hb
     cases r<;>exact q
   ·exact absurd hks (fun q=>Nat.not_succ_le_zero _ (Nat.le_of_succ_le_succ (Nat.le_of_succ_le_succ q)))
  ·exact last rfl rfl
 | bot=>exact ff hk.g
 | num _=>exact ff hk.g
 | var=>exact ff hk.g
 | arv=>exact ff hk.g
 | all _ _=>exact ff hk.g
 | _=>
  rcases d4 with rfl | rfl | rfl | rfl
  all_goals exact last rfl rfl
theorem eq_246 (D:Nat):∀ {n:Nat},40+D≤n→∀ {k:Kd},k.dep≤D→Me 10 10 80 k→∀ {a b:Int}{σ:ak}{K:KP},dp b→(∀ k' a' b',Ra k k'→dp b'→K (.p (kD k')) (urn a' b'::σ))→ae an n 65 [.ref 0,.p (kD k)] (urn a b::σ) K:=by
 induction D with
 | zero=>exact fun J J hd=>absurd (Nat.le_trans eq_27 hd) (Nat.lt_irrefl 0)
 | succ D ih=>
  intro n hn k hd hk a b σ K hb go
  obtain⟨n,rfl⟩:∃ m,n=m+1:=⟨n - 1,u3 (Nat.le_trans (Nat.le_add_right 40 _) hn) rfl⟩
  have hn:40+D≤n:=Nat.le_of_succ_le_succ hn
  have hn4:40≤n:=Nat.le_trans (Nat.le_add_right 40 D) hn
  refine rg rfl rfl (rk rfl (eq_6 (ρ:=[(aW,.ref 0),(ad,.p (kD k))]) rfl ?_))
  dsimp only[fV]
  generalize hR:qe qd=R
  conv=>whnf
  subst hR
  exact sM (t:=4) (Nat.le_trans (qZ rfl) hn4) hb (qZ rfl) (qZ rfl) fun d a b hd' hb=>eq_975 hn hd' hd hk hb (fun h1 h2=>ih hn h1 h2) go fun h1 h2=>eq_974 hn4 hk h1 h2 hb fun z a b hz hb=>go z a b hz hb
end Mine
end
section
namespace Mine
open PySem
theorem eq_976:∀ m∈ao,((qm m).all fun o=>ao.contains o&&(chain m).contains o)=true:=by decide +kernel
theorem eq_455 (m:Nat)(hm:m∈ao) (o:Nat)(h:qm m=some o):ao.contains o=true∧(chain m).contains o=true:=by
 have q:=eq_976 m hm
 rw[h] at q
 exact aT q
theorem eq_977 {d l m:Nat}{ks:List Kd}{r:Option Nat}(h:Me d l m (.tup ks r)):∀ x∈ks,Me (d - 1) l (m - 4) x:=fun x hx=>
 ⟨sX.mp (aT h.g).2 x hx,Nat.le_sub_of_add_le (Nat.le_trans (Nat.succ_le_succ (su hx)) h.d),Nat.le_trans (tq (ks:=ks)▸eq_41 hx) (Nat.le_trans (Nat.le_max_right 1 _) h.l),Nat.le_sub_of_add_le (Nat.le_trans (Nat.add_le_add_right (eq_438 (ks:=ks)▸eq_41 hx) 4) h.m)⟩
theorem si {ks:List Kd}{r:Option Nat}(g:gd (.tup ks r)=true):Nat.ble ks.length 2=true∧qj r=true∧gds ks=true:=⟨(aT (aT g).1).1,(aT (aT g).1).2,(aT g).2⟩
theorem eq_42 {k:Kd}{ks:List Kd}(h:gds (k::ks)=true):gd k=true∧gds ks=true:=aT h
def Mo (k k':Kd):Prop:=gd k'=true∧k'.dep≤k.dep+2∧lf k'≤lf k+2∧mm k'≤mm k+14
theorem eq_247 {ks ls:List Kd}{r:Option Nat}(g:gd (.tup ks r)=true)(hl:ls.length=ks.length)(hg:gds ls=true)(hd:Kd.deps ls≤Kd.deps ks+2)(hf:lfs ls≤lfs ks+2)(hm:mms ls≤mms ks+14):Mo (.tup ks r) (.tup ls r):=by
 refine⟨aI (aI (hl▸(si g).1) (si g).2.1) hg,Nat.succ_le_succ hd,Nat.max_le.mpr ⟨Nat.le_trans (Nat.le_max_left 1 (lfs ks)) (Nat.le_add_right _ 2),Nat.le_trans hf (Nat.add_le_add_right (Nat.le_max_right _ _) 2)⟩,?_⟩
 show mms ls+4≤mms ks+4+14
 rw[Nat.add_right_comm]
 exact Nat.add_le_add_right hm 4
theorem eq_248 {a b c:Nat}(h:c≤a+2):Nat.max c b≤Nat.max a b+2:=Nat.max_le.mpr ⟨Nat.le_trans h (Nat.add_le_add_right (Nat.le_max_left _ _) 2),Nat.le_trans (Nat.le_max_right a b) (Nat.le_add_right _ 2)⟩
theorem eq_978 {a b c:Nat}(h:c≤a+2):Nat.max b c≤Nat.max b a+2:=Nat.max_le.mpr ⟨Nat.le_trans (Nat.le_max_left b a) (Nat.le_add_right _ 2),Nat.le_trans h (Nat.add_le_add_right (Nat.le_max_right _ _) 2)⟩
theorem eq_456 {a b x n:Nat}(h:a≤b+n):a+x≤b+x+n:=by rw[Nat.add_right_comm];exact Nat.add_le_add_right h x
theorem eq_979 {k k':Kd}(h:Ra k k'):gd k=true→Mo k k':=by
 induction h with
 | nam h=>exact fun g=>⟨(eq_455 _ (rn g) _ h).1,qZ rfl,qZ rfl,qZ rfl⟩
 | tail h=>exact fun g=>⟨aI (aI (si g).1 h) (si g).2.2,Nat.le_add_right _ _,Nat.le_add_right _ _,Nat.le_add_right _ _⟩
 | one h ih=>
  intro g
  obtain⟨a,b,c,d⟩:=ih (eq_42 (si g).2.2).1
  exact eq_247 g rfl (aI a rfl) (eq_248 b) c d
 | fst h ih=>
  intro g
  have q:=eq_42 (si g).2.2
  obtain⟨a,b,c,d⟩:=ih q.1
  exact eq_247 g rfl (aI a q.2) (eq_248 b) (eq_456 c) (eq_456 d)
 | snd h ih=>
  intro g
  have q:=eq_42 (si g).2.2
  obtain⟨a,b,c,d⟩:=ih (eq_42 q.2).1
  exact eq_247 g rfl (aI q.1 (aI a rfl)) (eq_978 (eq_248 b)) (Nat.add_le_add_left c _) (Nat.add_le_add_left d _)
 | un hy hu=>
  intro g
  have t:=(eq_243 hu ⟨g,Nat.le_refl _,Nat.le_refl _,Nat.le_refl _⟩ hy.me).1
  exact⟨t.g,Nat.le_trans t.d (Nat.succ_le_succ (Nat.max_le.mpr ⟨Nat.le_succ _,Nat.succ_le_succ eq_27⟩)),t.l,Nat.le_trans t.m (Nat.succ_le_succ (Nat.max_le.mpr ⟨Nat.le_add_right _ 13,Nat.add_le_add_right eq_961 13⟩))⟩
theorem eq_249 {k k':Kd}{d l m:Nat}(h:Ra k k')(hk:Me d l m k):Me (d+2) (l+2) (m+14) k':=
 have q:=eq_979 h hk.g
 ⟨q.1,Nat.le_trans q.2.1 (Nat.add_le_add_right hk.d 2),Nat.le_trans q.2.2.1 (Nat.add_le_add_right hk.l 2),Nat.le_trans q.2.2.2 (Nat.add_le_add_right hk.m 14)⟩
def pB:List Kd→List Kd→Prop
 | [],[]=>True
 | k::ks,l::ls=>le k l=true∧pB ks ls
 | _,_=>False
theorem eq_980 {ls:List Kd}(h:∀ x∈ls,le x x=true):pB ls ls:=by
 induction ls with
 | nil=>trivial
 | cons x xs ih=>exact⟨h x mem_cons_self,ih fun y hy=>h y (mem_cons_of_mem _ hy)⟩
theorem eq_457 {k l c:Kd}(h:le k l=true)(hc:c∈cs k):bL c l=true:=List.all_eq_true.mp h c hc
theorem eq_981 {t:Option Nat}(ks:List Kd):∀ {ls:List Kd},pB ks ls→∀ row∈prods ks,clet row ls t=true:=by
 induction ks with
 | nil=>
  intro ls h row hr
  rw[mem_singleton.mp hr]
  cases ls with
  | nil=>rfl
  | cons l ls=>exact h.elim
 | cons k ks ih=>
  intro ls h row hr
  cases ls with
  | nil=>exact h.elim
  | cons l ls=>
   obtain⟨c,hc,hr⟩:=List.mem_flatMap.mp hr
   obtain⟨row',hr',rfl⟩:=List.mem_map.mp hr
   exact aI (eq_457 h.1 hc) (ih h.2 row' hr')
theorem eq_77 {ks ls:List Kd}{r s:Option Nat}(h:pB ks ls)(hr:ln r s=true):le (.tup ks r) (.tup ls s)=true:=List.all_eq_true.mpr fun c hc=>by
 obtain⟨row,hrow,rfl⟩:=List.mem_map.mp hc
 exact aI (eq_981 ks h row hrow) hr
theorem sO {k:Kd}(h:gd k=true)(hl:lf k≤18):le k k=true:=eq_210 (tH k h hl).1
theorem eq_250 {k k':Kd}(h:Ra k k'):gd k=true→lf k≤14→le k k'=true:=by
 have p:=fun {ks r}(g:gd (.tup ks r)=true)(hl:lf (.tup ks r)≤14)=>eq_977 (d:=_) (l:=14) (m:=_) ⟨g,Nat.le_refl _,hl,Nat.le_refl _⟩
 induction h with
 | nam h=>exact fun g J=>aI (eq_455 _ (rn g) _ h).2 rfl
 | tail h=>exact fun g hl=>eq_77 (eq_980 fun x hx=>sO (p g hl x hx).g (u1 (p g hl x hx).l rfl)) rfl
 | one h ih=>exact fun g hl=>eq_77 ⟨ih (eq_42 (si g).2.2).1 (p g hl _ mem_cons_self).l,trivial⟩ (eq_67 (si g).2.1)
 | fst h ih=>
  intro g hl
  have q:=p g hl _ (mem_cons_of_mem _ mem_cons_self)
  exact eq_77 ⟨ih (eq_42 (si g).2.2).1 (p g hl _ mem_cons_self).l,sO q.g (u1 q.l rfl),trivial⟩ (eq_67 (si g).2.1)
 | snd h ih=>
  intro g hl
  have q:=p g hl _ mem_cons_self
  have q':=p g hl _ (mem_cons_of_mem _ mem_cons_self)
  exact eq_77 ⟨sO q.g (u1 q.l rfl),ih q'.g q'.l,trivial⟩ (eq_67 (si g).2.1)
 | un hy hu=>
  intro g hl
  have u:=eq_129 g hy.me.g
  have s:=(eq_130 g hy.me.g).1
  rw[← tq] at s
  exact eq_428 hu (fun x hx=>(u x hx).2.1) (eq_439 (sX.mpr fun x hx=>(u x hx).1) (u1 (Nat.le_trans s (Nat.add_le_add hl hy.me.l)) rfl)).1
theorem eq_133 {n:Nat}(hn:1≤n){row:List Kd}{σ:ak}{K:KP}(hz:row.length≤300)(k:K (.p (kD (.tup row none))) σ):ae an n 1 [.p (.lst (kDs row))] σ K:=by
 obtain⟨n,rfl⟩:∃ m,n=m+1:=⟨n - 1,by exact rq hn⟩
 refine rg rfl rfl (rJ rfl rfl ?_)
 refine rF (eq_183 hz) ?_
 conv=>whnf
 rw[eq_59]
 exact k
theorem eq_982 {a b:Bool}(h:a=true→b=true)(k:b=true→a=true):a=b:=by
 cases a
 ·cases b
  ·rfl
  ·exact(k rfl)
 ·exact(h rfl).symm
theorem eq_983 {a c:Kd}(ha:gd a=true)(hc:gd c=true)(la:lf a≤10)(lc:lf c≤10):le (.tup [a,c] none) (.tup [c,c] none)=le a c:=
 eq_982 (fun h=>List.all_eq_true.mpr fun x hx=>by
  have p:0<(cs c).length:=eq_28 c▸eq_58 c (tQ c hc lc).2
  exact(aT (aT (eq_457 h (List.mem_map.mpr ⟨[x,(cs c)[0]],List.mem_flatMap.mpr ⟨x,hx,List.mem_map.mpr ⟨[(cs c)[0]],List.mem_flatMap.mpr ⟨(cs c)[0],List.getElem_mem p,mem_singleton.mpr rfl⟩,rfl⟩⟩,rfl⟩))).1).1) fun h=>eq_77 ⟨h,sO hc (u1 lc rfl),trivial⟩ rfl
theorem eq_458 {a c:Kd}{d l m d' l' m':Nat}(A:Me d l m a)(C:Me d l m c)(hd:d+1≤d')(h1:1≤l')(hl:l+l≤l')(hm:m+m+4≤m'):Me d' l' m' (.tup [a,c] none):=
 ⟨aI A.g (aI C.g rfl),Nat.le_trans (Nat.succ_le_succ (Nat.max_le.mpr ⟨A.d,Nat.max_le.mpr ⟨C.d,Nat.zero_le _⟩⟩)) hd,Nat.max_le.mpr ⟨h1,Nat.le_trans (Nat.add_le_add A.l C.l) hl⟩,Nat.le_trans (Nat.add_le_add_right (Nat.add_le_add A.m C.m) 4) hm⟩
theorem eq_984 {n:Nat}(hn:70≤n){a c:Kd}(ha:Me 10 10 80 a)(hc:Me 10 10 80 c){σ:ak}{K:KP}(k:K (.p (.bool (le a c&&le c a))) σ):ae an n 47 [KV,.p (kD a),.p (kD c)] σ K:=by
 obtain⟨n,rfl⟩:∃ m,n=m+1:=⟨n - 1,by exact rq hn⟩
 refine rg rfl rfl (rJ rfl rfl ?_)
 conv=>whnf
 refine mT (r6 (by have:=ha.d;exact u1 this rfl)) ?_
 rw[rU]
 by_cases e:a=c
 ·subst e
  rw[decide_eq_true rfl]
  rw[sO ha.g (by have:=ha.l;exact u1 this rfl)] at k
  exact k
 ·rw[decide_eq_false e]
  conv=>whnf
  refine sJ (by exact u2 hn rfl) ha.ok hc.ok ?_
  cases q:le a c with
  | false=>
   rw[q] at k
   exact k
  | true=>
   rw[q] at k
   conv=>whnf
   refine sJ (by exact u2 hn rfl) hc.ok ha.ok ?_
   exact k
theorem eq_985 {n:Nat}(hn:80≤n){a b c:Kd}(ha:lN a)(hb:lN b)(hc:lN c){σ:ak}{K:KP}(k:K (.p (.bool true)) σ):ae an n 67 [KV,.p (kD a),.p (kD b),.p (kD c)] σ K:=by
 obtain⟨n,rfl⟩:∃ m,n=m+1:=⟨n - 1,by exact rq hn⟩
 have A:=eq_17 ha (by exact qZ rfl) (by exact qZ rfl) (by exact qZ rfl)
 have B:=eq_17 hb (by exact qZ rfl) (by exact qZ rfl) (by exact qZ rfl)
 have C:=eq_17 hc (by exact qZ rfl) (by exact qZ rfl) (by exact qZ rfl)
 refine rg rfl rfl (rJ rfl rfl ?_)
 conv=>whnf
 refine sJ (by exact u2 hn rfl) A.ok C.ok ?_
 conv=>whnf
 refine sJ (by exact u2 hn rfl) B.ok C.ok ?_
 conv=>whnf
 refine eq_131 (a:=a) (b:=b) (by exact u2 hn rfl) A B fun z hz=>?_
 have u:=eq_129 A.g B.g
 have s:=(eq_130 A.g B.g).1
 rw[← tq] at s
 have Zm:Me 10 10 80 z:=(eq_243 hz ha.me hb.me).1.mono (qZ rfl) (qZ rfl) (qZ rfl)
 have e1:le z c=(le a c&&le b c):=eq_935 hz fun x hx=>(u x hx).2.1
 have e2:le a z=true:=eq_428 hz (fun x hx=>(u x hx).2.1) (eq_439 (sX.mpr fun x hx=>(u x hx).1) (u1 (Nat.le_trans s (Nat.add_le_add ha.me.l hb.me.l)) rfl)).1
 have T1:Me 10 10 80 (.tup [a,c] none):=eq_458 ha.me hc.me (qZ rfl) (qZ rfl) (qZ rfl) (qZ rfl)
 have T2:Me 10 10 80 (.tup [c,c] none):=eq_458 hc.me hc.me (qZ rfl) (qZ rfl) (qZ rfl) (qZ rfl)
 have e3:=eq_983 A.g C.g A.l C.l
 have Sz:=fun {σ:ak}{K:KP}(k:K (.p (.bool (le a c&&le b c))) σ)=>sJ (n:=n) (σ:=σ) (K:=K) (by exact u2 hn rfl) Zm.ok C.ok (by rw[e1];exact k)
 have Saz:=fun {σ:ak}{K:KP}(k:K (.p (.bool true)) σ)=>sJ (n:=n) (σ:=σ) (K:=K) (by exact u2 hn rfl) A.ok Zm.ok (by rw[e2];exact k)
 have Sac:=fun {σ:ak}{K:KP}(k:K (.p (.bool (le a c&&le c a))) σ)=>eq_984 (n:=n) (σ:=σ) (K:=K) (by exact u2 hn rfl) A C k
 have Sca:=fun {σ:ak}{K:KP}(k:K (.p (.bool (le c a))) σ)=>sJ (n:=n) (σ:=σ) (K:=K) (by exact u2 hn rfl) C.ok A.ok k
 have Stt:=fun {σ:ak}{K:KP}(k:K (.p (.bool (le a c))) σ)=>sJ (n:=n) (σ:=σ) (K:=K) (by exact u2 hn rfl) T1.ok T2.ok (by rw[e3];exact k)
 generalize le a c=x at *
 generalize le b c=y at *
 generalize le c a=w at *
 cases x with
 | false=>
  conv=>whnf
  refine Sz ?_
  conv=>whnf
  refine Saz ?_
  conv=>whnf
  refine Sac ?_
  conv=>whnf
  refine eq_133 (by exact u2 hn rfl) (row:=[a,c]) (by simp) ?_
  conv=>whnf
  refine eq_133 (by exact u2 hn rfl) (row:=[c,c]) (by simp) ?_
  conv=>whnf
  refine Stt ?_
  exact k
 | true=>
  cases y<;>cases w
  all_goals
   conv=>whnf
   refine Sz ?_
   conv=>whnf
   refine Saz ?_
   conv=>whnf
   refine Sac ?_
   conv=>whnf
   refine Sca ?_
   conv=>whnf
   refine eq_133 (by exact u2 hn rfl) (row:=[a,c]) (by simp) ?_
   conv=>whnf
   refine eq_133 (by exact u2 hn rfl) (row:=[c,c]) (by simp) ?_
   conv=>whnf
   refine Stt ?_
   exact k
theorem eq_986 {n:Nat}(hn:80≤n){k0:Kd}(h0:lN k0){a b:Int}(hb:dp b){X:Cell}{K:KP}(k:∀ σ,K (.p (.bool true)) σ):ae an n 66 [.ref 0,KV,.p (kD k0)] [urn a b,X] K:=by
 obtain⟨n,rfl⟩:∃ m,n=m+1:=⟨n - 1,by exact rq hn⟩
 have M0:=h0.me
 have T0:Me 10 10 80 k0:=M0.mono (by exact qZ rfl) (by exact qZ rfl) (by exact qZ rfl)
 refine rg rfl rfl (rk rfl ?_)
 conv=>whnf
 refine eq_246 10 (by exact u2 hn rfl) T0.d T0 hb fun k1 a b r1 hb=>?_
 have M1:=eq_249 r1 M0
 have T1:Me 10 10 80 k1:=M1.mono (by exact qZ rfl) (by exact qZ rfl) (by exact qZ rfl)
 conv=>whnf
 refine eq_246 10 (by exact u2 hn rfl) T1.d T1 hb fun k2 a b r2 hb=>?_
 have M2:=eq_249 r2 M1
 have T2:Me 10 10 80 k2:=M2.mono (by exact qZ rfl) (by exact qZ rfl) (by exact qZ rfl)
 conv=>whnf
 refine eq_246 10 (by exact u2 hn rfl) T2.d T2 hb fun k3 a b r3 hb=>?_
 have M3:=eq_249 r3 M2
 have T3:Me 10 10 80 k3:=M3.mono (by exact qZ rfl) (by exact qZ rfl) (by exact qZ rfl)
 have l01:=eq_250 r1 T0.g (by have:=T0.l;exact u1 this rfl)
 have l12:=eq_250 r2 T1.g (by have:=T1.l;exact u1 this rfl)
 have l23:=eq_250 r3 T2.g (by have:=T2.l;exact u1 this rfl)
 have l02:=le_trans T0.ok.kl T1.ok.kl T2.ok.kl l01 l12
 have l13:=le_trans T1.ok.kl T2.ok.kl T3.ok.kl l12 l23
 have l03:=le_trans T0.ok.kl T1.ok.kl T3.ok.kl l01 l13
 have S:∀ {x y:Kd}{σ:ak}{K:KP},Me 10 10 80 x→Me 10 10 80 y→le x y=true→K (.p (.bool true)) σ→ae an n 46 [KV,.p (kD x),.p (kD y)] σ K:=fun hx hy h k=>sJ (by exact u2 hn rfl) hx.ok hy.ok (by rw[h];exact k)
 have l00:=sO T0.g (by have:=T0.l;exact u1 this rfl)
 have l11:=sO T1.g (by have:=T1.l;exact u1 this rfl)
 have l22:=sO T2.g (by have:=T2.l;exact u1 this rfl)
 have l33:=sO T3.g (by have:=T3.l;exact u1 this rfl)
 conv=>whnf
 refine S T0 T0 l00 ?_
 conv=>whnf
 refine S T0 T1 l01 ?_
 conv=>whnf
 refine S T0 T2 l02 ?_
 conv=>whnf
 refine S T0 T3 l03 ?_
 conv=>whnf
 refine S T1 T1 l11 ?_
 conv=>whnf
 refine S T1 T2 l12 ?_
 conv=>whnf
 refine S T1 T3 l13 ?_
 conv=>whnf
 refine S T2 T2 l22 ?_
 conv=>whnf
 refine S T2 T3 l23 ?_
 conv=>whnf
 refine S T3 T3 l33 ?_
 exact k _
theorem eq_251 {n:Nat}(hn:1≤n){ds:List D}{σ:ak}{K:KP}(hz:ds.length≤300)(k:K (.p (.tup [.str bd,.tup ds,.none])) σ):ae an n 1 [.p (.lst ds)] σ K:=by
 obtain⟨n,rfl⟩:∃ m,n=m+1:=⟨n - 1,by exact rq hn⟩
 refine rg rfl rfl (rJ rfl rfl ?_)
 conv=>whnf
 rw[length_map,rj (by exact u1 hz rfl)]
 conv=>whnf
 rw[eq_59]
 exact k
def F3 (k:Kd):Prop:=lN k∨∃ u m,k=.all u m∧m∈ao
theorem eq_987 {n:Nat}(hn:80≤n){a b:Int}(hb:dp b){K:KP}(k:∀ k0 k1 k2 k3 a b,lN k0→lN k1→lN k2→F3 k3→dp b→K (.ref 1) [urn a b,.list [.p (kD k0),.p (kD k1),.p (kD k2),.p (kD k3)]]):ae an n 64 [.ref 0] [urn a b] K:=by
 obtain⟨n,rfl⟩:∃ m,n=m+1:=⟨n - 1,by exact rq hn⟩
 refine rg rfl rfl (rk rfl ?_)
 conv=>whnf
 refine eq_132 (by exact u2 hn rfl) hb fun k0 a b h0 hb=>?_
 conv=>whnf
 refine eq_132 (by exact u2 hn rfl) hb fun k1 a b h1 hb=>?_
 conv=>whnf
 refine eq_132 (by exact u2 hn rfl) hb fun k2 a b h2 hb=>?_
 conv=>whnf
 refine eq_132 (by exact u2 hn rfl) hb fun k3 a b h3 hb=>?_
 conv=>whnf
 refine sM (t:=2) (by exact u2 hn rfl) hb (by exact qZ rfl) (by exact qZ rfl) fun d a b hd hb=>?_
 apply eq_76 (d:=d) _ _ hd
 ·conv=>whnf
  refine eq_251 (by exact u2 hn rfl) (ds:=[vD v7]) (by simp) ?_
  conv=>whnf
  refine eq_251 (by exact u2 hn rfl) (ds:=[vD v7,vD v7]) (by simp) ?_
  conv=>whnf
  refine eq_251 (by exact u2 hn rfl) (ds:=[vD v7,oo (vD v7) 1]) (by simp) ?_
  conv=>whnf
  refine tx (by exact u2 hn rfl) hb fun m a b hm hb=>?_
  conv=>whnf
  refine sM (t:=4) (by exact u2 hn rfl) hb (by exact qZ rfl) (by exact qZ rfl) fun d a b hd hb=>?_
  have go:=fun j=>k k0 k1 k2 (.all j m) a b h0 h1 h2 (.inr ⟨j,m,rfl,rn hm⟩) hb
  apply tv (d:=d) _ _ _ _ hd
  ·exact go 0
  ·exact go 1
  ·exact go 2
  ·exact go 3
 ·exact k k0 k1 k2 k3 a b h0 h1 h2 (.inl h3) hb
theorem eq_459 {n:Nat}{v:PV}{x:Int}{K:KP}(k:∀ a b,dp b→K (.ref 0) [urn a b]):bu an.tab (ae an n) qD [(cG,v),(fO,.p (.int x))] [] fun r J σ=>K (kH r) σ:=by
 have go:∀ a z:Int,K (.ref 0) [urn a (z % 1000000007+101)]:=fun a z=>by
  have h1:0≤z % 1000000007:=Int.emod_nonneg _ (by lia)
  have h3:z % 1000000007<1000000007:=Int.emod_lt_of_pos _ (by lia)
  exact k a _ ⟨by lia,by lia⟩
 conv=>whnf
 cases decide ((0:Int)≤x) with
 | true=>
  conv=>whnf
  cases decide ((1000000000000000000:Int)≤x) with
  | true=>exact go _ _
  | false=>exact go _ _
 | false=>
  conv=>whnf
  cases decide ((1000000000000000000:Int)≤2 - x) with
  | true=>exact go _ _
  | false=>exact go _ _
theorem eq_988 {n:Nat}(hn:1≤n){ns:List Int}{K:KP}(k:∀ a b,dp b→K (.ref 0) [urn a b]):ae an n 60 [.p (.lst (ns.map .int))] [] K:=by
 obtain⟨n,rfl⟩:∃ m,n=m+1:=⟨n - 1,by exact rq hn⟩
 refine rg rfl rfl (rk rfl ?_)
 cases ns with
 | nil=>exact eq_459 (n:=n) (v:=.p (.lst [])) (x:=1) k
 | cons x xs=>exact eq_459 (n:=n) (v:=.p (.lst (.int x::xs.map .int))) (x:=x) k
noncomputable def m0 (zs:List D):D:=.tup [.str b6,.str e7,l4,.tup [.str bM,.tup zs],.tup [.str aa,.str gG,.tup [.tup [.str aM,.str e7]]]]
noncomputable def pC:D:=.tup [.str b6,.str hG,l4,bJ av,.tup [.str aa,.str gG,.tup [.tup [.str aM,.str hG]]]]
theorem eq_989 (n:Nat)(σ:ak)(K:KP):ae an (n+70) 46 [KV,.p (m0 [bJ aG,bJ aA]),.p pC] σ K=K (.p (.bool false)) σ:=by kernel_rfl
theorem eq_990 (n:Nat)(σ:ak)(K:KP):ae an (n+70) 46 [KV,.p (m0 [bJ aA,bJ aG]),.p pC] σ K=K (.p (.bool false)) σ:=by kernel_rfl
theorem eq_991 (n:Nat)(σ:ak)(K:KP):ae an (n+70) 46 [KV,.p (m0 [bJ aG,bJ aA]),.p (m0 [bJ aG,bJ aA])] σ K=K (.p (.bool true)) σ:=by kernel_rfl
theorem eq_992 (n:Nat)(σ:ak)(K:KP):ae an (n+70) 46 [KV,.p (m0 [bJ aA,bJ aG]),.p (m0 [bJ aA,bJ aG])] σ K=K (.p (.bool true)) σ:=by kernel_rfl
noncomputable def eU (x y:Kd):Bool:=match x with
 | .all u b=>(match y with
  | .all _ _=>true
  | _=>mO u b y)
 | _=>(match y with
  | .all u b=>oI x u b
  | _=>le x y)
theorem tz {x y:Kd}(hx:gd x=true)(hy:gd y=true):eU x y=le x y:=by
 cases x<;>first | (cases hx;done) | (cases y<;>first | rfl | (cases hy;done))
theorem eq_134 {u:Fin 4}{b:Nat}{y:Kd}(hy:gd y=true):eU (.all u b) y=mO u b y:=by
 cases y<;>first | rfl | (cases hy;done)
theorem eq_135 {u:Fin 4}{b:Nat}{x:Kd}(hx:gd x=true):eU x (.all u b)=oI x u b:=by
 cases x<;>first | rfl | (cases hx;done)
def Q (A x:Kd):Prop:=lN x∨(x=A∧∃ u m,A=.all u m∧m∈ao)
theorem rY {x:Kd}(h:lN x):Me 10 10 80 x:=eq_17 h (by exact qZ rfl) (by exact qZ rfl) (by exact qZ rfl)
section
variable {A x y z:Kd}
theorem eq_993 (h:Q A x):eU x x=true:=by
 rcases h with h | ⟨rfl,u,m,rfl,hm⟩
 ·rw[tz h.me.g h.me.g];exact sO h.me.g (by have:=h.me.l;exact u1 this rfl)
 ·rfl
theorem eq_994 (hx:Q A x)(hy:Q A y)(hz:Q A z)(h1:eU x y=true)(h2:eU y z=true):eU x z=true:=by
 rcases hx with hx | ⟨rfl,u,m,ea,hm⟩
 ·rcases hy with hy | ⟨rfl,u,m,ea,hm⟩
  ·rcases hz with hz | ⟨rfl,u,m,ea,hm⟩
   ·rw[tz hx.me.g hy.me.g] at h1
    rw[tz hy.me.g hz.me.g] at h2
    rw[tz hx.me.g hz.me.g]
    exact le_trans (rY hx).ok.kl (rY hy).ok.kl (rY hz).ok.kl h1 h2
   ·subst ea
    rw[tz hx.me.g hy.me.g] at h1
    rw[eq_135 hy.me.g] at h2
    rw[eq_135 hx.me.g]
    exact eq_929 hm (rY hx).ok.kl (rY hy).ok.kl h1 h2
  ·subst ea
   rcases hz with hz | ⟨rfl,_⟩
   ·rw[eq_135 hx.me.g] at h1
    rw[eq_134 hz.me.g] at h2
    rw[tz hx.me.g hz.me.g]
    exact eq_931 hm (rY hx).ok.kl (rY hz).ok.kl h1 h2
   ·exact h1
 ·subst ea
  rcases hy with hy | ⟨rfl,_⟩
  ·rcases hz with hz | ⟨rfl,_⟩
   ·rw[eq_134 hy.me.g] at h1
    rw[tz hy.me.g hz.me.g] at h2
    rw[eq_134 hz.me.g]
    exact eq_930 hm (rY hy).ok.kl (rY hz).ok.kl h1 h2
   ·rfl
  ·exact h2
variable {n:Nat}{σ:ak}{K:KP}
theorem eq_78 (hn:65≤n)(hx:Q A x)(hy:Q A y)(k:K (.p (.bool (eU x y))) σ):ae an n 46 [KV,.p (kD x),.p (kD y)] σ K:=by
 rcases hx with hx | ⟨rfl,u,m,ea,hm⟩
 ·rcases hy with hy | ⟨rfl,u,m,ea,hm⟩
  ·rw[tz hx.me.g hy.me.g] at k
   exact sJ hn (rY hx).ok (rY hy).ok k
  ·subst ea
   rw[eq_135 hx.me.g] at k
   exact eq_915 hn hm (rY hx).ok (by have:=hx.me.d;exact u1 this rfl) k
 ·subst ea
  rcases hy with hy | ⟨rfl,_⟩
  ·rw[eq_134 hy.me.g] at k
   exact eq_865 hn hm (rY hy).ok.kl (by have:=hy.me.d;exact u1 this rfl) (by have:=hy.w;exact u1 this rfl) k
  ·exact sub_self hn (qZ rfl) k
theorem eq_995 (hn:65≤n)(hx:Q A x)(k:K (.p (.bool true)) σ):ae an n 46 [KV,.p (kD x),.p (kD x)] σ K:=eq_78 hn hx hx (by rw[eq_993 hx];exact k)
theorem eq_996 (hn:65≤n)(hx:Q A x)(k:K (.p (.bool true)) σ):ae an n 46 [KV,.p l4,.p (kD x)] σ K:=by
 rcases hx with hx | ⟨rfl,u,m,ea,hm⟩
 ·have:=eq_242 hx.me.g
  exact eq_386 hn this.1 this.2.2.1 k
 ·subst ea
  exact eq_386 hn (fun e=>nomatch e) rfl k
theorem eq_997 (hn:65≤n)(hx:Q A x)(k:K (.p (.bool true)) σ):ae an n 46 [KV,.p (kD x),.p (bJ ai)] σ K:=by
 rcases hx with hx | ⟨rfl,u,m,ea,hm⟩
 ·exact eq_830 hn (rY hx).ok k
 ·subst ea
  exact eq_831 hn k
end
noncomputable def qX:List T:=lK 8 gH.body
theorem eq_1016:gH.body=mY qX o6:=by kernel_rfl
noncomputable def l8 (v0 v3 v4 v5 v7:PV)(T:List D)(rest:aN):aN:=(cG,v0)::(aW,.ref 0)::(aj,KV)::(bX,v3)::(eZ,v4)::(g9,v5)::(cA,.ref 1)::(ad,v7)::(cj,.p (.lst T))::rest
noncomputable def kt (a0 a1 a2 a3:Bool):D:=.lst [.bool a0,.bool a1,.bool a2,.bool a3]
theorem both {P:Bool→Prop}{s:Bool}(f:P false)(t:s=true→P false→P true):P s:=match s,t with
 | false,_=>f
 | true,t=>t rfl f
theorem rT {n:Nat}{σ:ak}{v0 v3 v4 v5 v7:PV}{T:List D}{at_ spot:Nat}{a0 a1 a2 a3 s0 s1 s2 s3 r:Bool}{K:KR}
  (gA:fF σ (.p (.lst T)) (.p (.int at_))=some (.p (kt a0 a1 a2 a3)))(gS:fF σ (.p (.lst T)) (.p (.int spot))=some (.p (kt s0 s1 s2 s3)))(gr:fF σ (.p (kt a0 a1 a2 a3)) (.p (.int spot))=some (.p (.bool r)))
  (t0:r=true→s0=true→a0=true)(t1:r=true→s1=true→a1=true)(t2:r=true→s2=true→a2=true)(t3:r=true→s3=true→a3=true)
  (k:K .next (l8 v0 v3 v4 v5 v7 T [(cI,.p (.int at_)),(cM,.p (.int spot))]) σ) :
  bu an.tab (ae an n) o5 (l8 v0 v3 v4 v5 v7 T [(cI,.p (.int at_)),(cM,.p (.int spot))]) σ K:=by
 conv=>whnf
 rw[gA]
 conv=>whnf
 rw[gr]
 cases r with
 | false=>exact k
 | true=>
  conv=>whnf
  rw[gS]
  apply both (s:=s0)
  rotate_left
  ·intro e key
   rw[t0 rfl e] at gA
   conv=>whnf
   rw[gA]
   conv=>whnf
   conv at key=>whnf
   exact key
  conv=>whnf
  rw[gS]
  apply both (s:=s1)
  rotate_left
  ·intro e key
   rw[t1 rfl e] at gA
   conv=>whnf
   rw[gA]
   conv=>whnf
   conv at key=>whnf
   exact key
  conv=>whnf
  rw[gS]
  apply both (s:=s2)
  rotate_left
  ·intro e key
   rw[t2 rfl e] at gA
   conv=>whnf
   rw[gA]
   conv=>whnf
   conv at key=>whnf
   exact key
  conv=>whnf
  rw[gS]
  apply both (s:=s3)
  rotate_left
  ·intro e key
   rw[t3 rfl e] at gA
   conv=>whnf
   rw[gA]
   conv=>whnf
   conv at key=>whnf
   exact key
  exact k
theorem eq_252 {F:PV→aN→ak→(Res→aN→ak→Prop)→Prop}{vi:PV}{all:List PV}{σ:ak}{ρ0:aN→aN}{Q:aN→Prop}(hv:∀ R,R→dE vi all σ R):∀ {xs:List PV}{rest:aN}{K:KR},(∀ x∈xs,∀ rest,Q rest→∀ K:Res→aN→ak→Prop,(∀ rest,Q rest→K .next (ρ0 rest) σ)→F x (ρ0 rest) σ K)→Q rest→(∀ rest,Q rest→K .next (ρ0 rest) σ)→hZ vi all F xs (ρ0 rest) σ K
 | [],rest,K,h,hq,k=>hv _ (k rest hq)
 | x::xs,rest,K,h,hq,k=>hv _ (h x mem_cons_self rest hq _ fun rest hq=>eq_252 hv (fun y hy=>h y (mem_cons_of_mem _ hy)) hq k)
theorem eq_460 {Φ:b9}{x:Nat}{b t:T}{ρ:aN}{σ:ak}{K:KR}(h:hZ (.mix (bz 4 0)) (bz 4 0) (fun y ρ σ K=>match bo (.one x) y ρ with
  | some ρ'=>bu an.tab Φ b ρ' σ K
  | none=>False) (bz 4 0) ρ σ fun r ρ σ=>match r with
  | .next=>bu an.tab Φ t ρ σ K
  | .ret v=>K (.ret v) ρ σ):bu an.tab Φ (.cons (.fro (.one x) (.rng (.con (.int 4))) b) t) ρ σ K:=h
theorem eq_461 {x:PV}(h:x∈bz 4 0):∃ i:Nat,i<4∧x=.p (.int i):=by
 simp only[bz,mem_cons,not_mem_nil,or_false] at h
 rcases h with rfl | rfl | rfl | rfl
 ·exact⟨0,by exact qZ rfl,rfl⟩
 ·exact⟨1,by exact qZ rfl,rfl⟩
 ·exact⟨2,by exact qZ rfl,rfl⟩
 ·exact⟨3,by exact qZ rfl,rfl⟩
noncomputable def i9 (k0 k1 k2 k3:Kd):List D:=[kt (eU k0 k0) (eU k0 k1) (eU k0 k2) (eU k0 k3),kt (eU k1 k0) (eU k1 k1) (eU k1 k2) (eU k1 k3),kt (eU k2 k0) (eU k2 k1) (eU k2 k2) (eU k2 k3),kt (eU k3 k0) (eU k3 k1) (eU k3 k2) (eU k3 k3)]
theorem eq_998:o6=.cons (.fro (.one cI) (.rng (.con (.int 4))) (.cons (.fro (.one cM) (.rng (.con (.int 4))) o5) .nil)) pA:=by kernel_rfl
section
variable {n:Nat}{σ:ak}{v0 v3 v4 v5 v7:PV}{k0 k1 k2 k3:Kd}{K:KR}
theorem eq_999 {at_ spot:Nat}(h0:Q k3 k0)(h1:Q k3 k1)(h2:Q k3 k2)(h3:Q k3 k3)(ha:at_<4)(hs:spot<4)(k:K .next (l8 v0 v3 v4 v5 v7 (i9 k0 k1 k2 k3) [(cI,.p (.int at_)),(cM,.p (.int spot))]) σ) :
  bu an.tab (ae an n) o5 (l8 v0 v3 v4 v5 v7 (i9 k0 k1 k2 k3) [(cI,.p (.int at_)),(cM,.p (.int spot))]) σ K:=by
 have tr:∀ {x y z:Kd},Q k3 x→Q k3 y→Q k3 z→eU x y=true→eU y z=true→eU x z=true:=fun a b c d e=>eq_994 a b c d e
 revert k
 apply tv (d:=at_) _ _ _ _ ha
 ·apply tv (d:=spot) _ _ _ _ hs
  ·exact fun k=>rT rfl rfl rfl (tr h0 h0 h0) (tr h0 h0 h1) (tr h0 h0 h2) (tr h0 h0 h3) k
  ·exact fun k=>rT rfl rfl rfl (tr h0 h1 h0) (tr h0 h1 h1) (tr h0 h1 h2) (tr h0 h1 h3) k
  ·exact fun k=>rT rfl rfl rfl (tr h0 h2 h0) (tr h0 h2 h1) (tr h0 h2 h2) (tr h0 h2 h3) k
  ·exact fun k=>rT rfl rfl rfl (tr h0 h3 h0) (tr h0 h3 h1) (tr h0 h3 h2) (tr h0 h3 h3) k
 ·apply tv (d:=spot) _ _ _ _ hs
  ·exact fun k=>rT rfl rfl rfl (tr h1 h0 h0) (tr h1 h0 h1) (tr h1 h0 h2) (tr h1 h0 h3) k
  ·exact fun k=>rT rfl rfl rfl (tr h1 h1 h0) (tr h1 h1 h1) (tr h1 h1 h2) (tr h1 h1 h3) k
  ·exact fun k=>rT rfl rfl rfl (tr h1 h2 h0) (tr h1 h2 h1) (tr h1 h2 h2) (tr h1 h2 h3) k
  ·exact fun k=>rT rfl rfl rfl (tr h1 h3 h0) (tr h1 h3 h1) (tr h1 h3 h2) (tr h1 h3 h3) k
 ·apply tv (d:=spot) _ _ _ _ hs
  ·exact fun k=>rT rfl rfl rfl (tr h2 h0 h0) (tr h2 h0 h1) (tr h2 h0 h2) (tr h2 h0 h3) k
  ·exact fun k=>rT rfl rfl rfl (tr h2 h1 h0) (tr h2 h1 h1) (tr h2 h1 h2) (tr h2 h1 h3) k
  ·exact fun k=>rT rfl rfl rfl (tr h2 h2 h0) (tr h2 h2 h1) (tr h2 h2 h2) (tr h2 h2 h3) k
  ·exact fun k=>rT rfl rfl rfl (tr h2 h3 h0) (tr h2 h3 h1) (tr h2 h3 h2) (tr h2 h3 h3) k
 ·apply tv (d:=spot) _ _ _ _ hs
  ·exact fun k=>rT rfl rfl rfl (tr h3 h0 h0) (tr h3 h0 h1) (tr h3 h0 h2) (tr h3 h0 h3) k
  ·exact fun k=>rT rfl rfl rfl (tr h3 h1 h0) (tr h3 h1 h1) (tr h3 h1 h2) (tr h3 h1 h3) k
  ·exact fun k=>rT rfl rfl rfl (tr h3 h2 h0) (tr h3 h2 h1) (tr h3 h2 h2) (tr h3 h2 h3) k
  ·exact fun k=>rT rfl rfl rfl (tr h3 h3 h0) (tr h3 h3 h1) (tr h3 h3 h2) (tr h3 h3 h3) k
def pD (rest:aN):Prop:=rest=[]∨(∃ x,rest=[(cI,x)])∨∃ x y,rest=[(cI,x),(cM,y)]
theorem eq_1000 (h0:Q k3 k0)(h1:Q k3 k1)(h2:Q k3 k2)(h3:Q k3 k3)(k:∀ rest,pD rest→bu an.tab (ae an n) pA (l8 v0 v3 v4 v5 v7 (i9 k0 k1 k2 k3) rest) σ K) :
  bu an.tab (ae an n) o6 (l8 v0 v3 v4 v5 v7 (i9 k0 k1 k2 k3) []) σ K:=by
 rw[eq_998]
 refine eq_460 ?_
 have inner:∀ (at_:Nat),at_<4→∀ rest,(rest=[(cI,.p (.int at_))]∨∃ y,rest=[(cI,.p (.int at_)),(cM,y)])→∀ K:Res→aN→ak→Prop,(∀ rest,pD rest→K .next (l8 v0 v3 v4 v5 v7 (i9 k0 k1 k2 k3) rest) σ)→
   bu an.tab (ae an n) (.cons (.fro (.one cM) (.rng (.con (.int 4))) o5) .nil) (l8 v0 v3 v4 v5 v7 (i9 k0 k1 k2 k3) rest) σ K:=by
  intro at_ ha rest hr K k
  refine eq_460 ?_
  refine eq_252 (vi:=.mix (bz 4 0)) (ρ0:=l8 v0 v3 v4 v5 v7 (i9 k0 k1 k2 k3)) (Q:=fun rest=>rest=[(cI,.p (.int at_))]∨∃ y,rest=[(cI,.p (.int at_)),(cM,y)]) (fun R r=>r) (fun x hx rest hr K k=>?_) hr fun rest hr=>?_
  ·obtain⟨spot,hs,rfl⟩:=eq_461 hx
   have go:=eq_999 (n:=n) (σ:=σ) (v0:=v0) (v3:=v3) (v4:=v4) (v5:=v5) (v7:=v7) (K:=K) h0 h1 h2 h3 ha hs (k _ (.inr ⟨_,rfl⟩))
   rcases hr with rfl | ⟨y,rfl⟩<;>exact go
  ·rcases hr with rfl | ⟨y,rfl⟩
   ·exact k _ (.inr (.inl ⟨_,rfl⟩))
   ·exact k _ (.inr (.inr ⟨_,_,rfl⟩))
 refine eq_252 (vi:=.mix (bz 4 0)) (ρ0:=l8 v0 v3 v4 v5 v7 (i9 k0 k1 k2 k3)) (Q:=pD) (fun R r=>r) (fun x hx rest hr K k=>?_) (.inl rfl) k
 obtain⟨at_,ha,rfl⟩:=eq_461 hx
 rcases hr with rfl | ⟨x,rfl⟩ | ⟨x,y,rfl⟩
 ·exact inner at_ ha [(cI,.p (.int at_))] (.inl rfl) K k
 ·exact inner at_ ha [(cI,.p (.int at_))] (.inl rfl) K k
 ·exact inner at_ ha [(cI,.p (.int at_)),(cM,y)] (.inr ⟨_,rfl⟩) K k
theorem eq_1001 (hn:80≤n){a b:Int}(hb:dp b)(h0:lN k0)(h1:lN k1)(h2:lN k2){rest:aN}(hr:pD rest){K:KR}(k:∀ ρ σ,K (.ret (.p (.bool true))) ρ σ) :
  bu an.tab (ae an n) pA (l8 v0 v3 v4 v5 v7 (i9 k0 k1 k2 k3) rest) [urn a b,.list [.p (kD k0),.p (kD k1),.p (kD k2),.p (kD k3)]] K:=by
 conv=>whnf
 refine eq_985 hn h0 h1 h2 ?_
 conv=>whnf
 refine eq_986 hn h0 hb fun σ=>?_
 exact k _ _
end
theorem eq_1002 {n:Nat}(hn:30≤n){σ:ak}{K:KP}(k:K KV σ):ae an n 57 [] σ K:=by
 obtain⟨n,rfl⟩:∃ m,n=m+30:=⟨n - 30,by exact u3 hn rfl⟩
 rw[eq_736];exact k
theorem eq_1003 {α:Type}{zs:List α}{a b:α}(p:zs.Perm [a,b]):zs=[a,b]∨zs=[b,a]:=by
 have l:=p.length_eq
 match zs,l with
 | [x,y],_=>
  have hx:x∈[a,b]:=p.mem_iff.mp (by simp)
  simp only[mem_cons,not_mem_nil,or_false] at hx
  rcases hx with rfl | rfl
  ·have:=(List.perm_cons _).mp p
   rw[List.singleton_perm_singleton] at this
   rw[this];exact .inl rfl
  ·have:=(List.perm_cons _).mp (p.trans (List.Perm.swap _ _ _))
   rw[List.singleton_perm_singleton] at this
   rw[this];exact .inr rfl
theorem eq_1004 {k:Kd}(h:UnOf (.nam aG) (.nam aA) k):k=.uni [.nam aG,.nam aA]∨k=.uni [.nam aA,.nam aG]:=by
 have e:fC (.nam aG) (.nam aA)=[.nam aG,.nam aA]:=by kernel_rfl
 cases h with
 | one h=>rw[e] at h;simp at h
 | many p _=>
  rw[e] at p
  rcases eq_1003 p with rfl | rfl
  ·exact .inl rfl
  ·exact .inr rfl
noncomputable def qp:Bool→D
 | true=>.tup [.str bM,.tup [bJ aG,bJ aA]]
 | false=>.tup [.str bM,.tup [bJ aA,bJ aG]]
noncomputable def nZ (w:Bool):D:=.tup [.str b6,.str e7,l4,qp w,.tup [.str aa,.str gG,.tup [.tup [.str aM,.str e7]]]]
theorem eq_1005 {n:Nat}(hn:70≤n){w:Bool}{σ:ak}{K:KP}(k:K (.p (.bool false)) σ):ae an n 46 [KV,.p (nZ w),.p pC] σ K:=by
 obtain⟨n,rfl⟩:∃ m,n=m+70:=⟨n - 70,by exact u3 hn rfl⟩
 cases w with
 | true=>rw[show nZ true=m0 [bJ aG,bJ aA] from rfl,eq_989];exact k
 | false=>rw[show nZ false=m0 [bJ aA,bJ aG] from rfl,eq_990];exact k
theorem eq_1006 {n:Nat}(hn:70≤n){w:Bool}{σ:ak}{K:KP}(k:K (.p (.bool true)) σ):ae an n 46 [KV,.p (nZ w),.p (nZ w)] σ K:=by
 obtain⟨n,rfl⟩:∃ m,n=m+70:=⟨n - 70,by exact u3 hn rfl⟩
 cases w with
 | true=>rw[show nZ true=m0 [bJ aG,bJ aA] from rfl,eq_991];exact k
 | false=>rw[show nZ false=m0 [bJ aA,bJ aG] from rfl,eq_992];exact k
theorem eq_1007 {vi:PV}{all:List PV}{F:PV→aN→ak→(Res→aN→ak→Prop)→Prop}{x0 x1 x2 x3:PV}{ρ0 ρ1 ρ2 ρ3 ρ4:aN}{σ:ak}{K:KR}(c:∀ P,P→dE vi all σ P)(f0:∀ K:Res→aN→ak→Prop,K .next ρ1 σ→F x0 ρ0 σ K)(f1:∀ K:Res→aN→ak→Prop,K .next ρ2 σ→F x1 ρ1 σ K)(f2:∀ K:Res→aN→ak→Prop,K .next ρ3 σ→F x2 ρ2 σ K)(f3:∀ K:Res→aN→ak→Prop,K .next ρ4 σ→F x3 ρ3 σ K)(k:K .next ρ4 σ):hZ vi all F [x0,x1,x2,x3] ρ0 σ K:=
 c _ (f0 _ (c _ (f1 _ (c _ (f2 _ (c _ (f3 _ (c _ k))))))))
theorem eq_462 {vi:PV}{all:List PV}{F:PV→ak→(List D→ak→Prop)→Prop}{x0 x1 x2 x3:PV}{d0 d1 d2 d3:D}{σ:ak}{K:List D→ak→Prop}(c:∀ P,P→dE vi all σ P)(f0:∀ K:List D→ak→Prop,K [d0] σ→F x0 σ K)(f1:∀ K:List D→ak→Prop,K [d1] σ→F x1 σ K)(f2:∀ K:List D→ak→Prop,K [d2] σ→F x2 σ K)(f3:∀ K:List D→ak→Prop,K [d3] σ→F x3 σ K)(k:K [d0,d1,d2,d3] σ):dh vi all F [x0,x1,x2,x3] σ K:=
 c _ (f0 _ (c _ (f1 _ (c _ (f2 _ (c _ (f3 _ (c _ k))))))))
noncomputable def qq:T:=(.cons (.iff (.bl true (.cons (.not (.call 46 (.cons (.var aj) (.cons (.var ad) (.cons (.var ad) .nil))))) (.cons (.not (.call 46 (.cons (.var aj) (.cons (.tup (.cons (.con (.str aB)) .nil)) (.cons (.var ad) .nil))))) (.cons (.not (.call 46 (.cons (.var aj) (.cons (.var ad) (.cons (.tup (.cons (.con (.str aa)) (.cons (.con (.str ai)) (.cons (.tup .nil) .nil)))) .nil))))) .nil)))) (.cons (.ret (.con (.bool false))) .nil) .nil) .nil)
noncomputable def mQ:T:=.cmp1 false (.call 46 (.cons (.var aj) (.cons (.var aw) (.cons (.var am) .nil)))) (.one am) (.var cA) (.con (.bool true))
noncomputable def qM:T:=.cons (.fro (.one ad) (.var cA) qq) (.cons (.asg cj (.cmp1 false mQ (.one aw) (.var cA) (.con (.bool true)))) o6)
noncomputable def qY:List T:=lK 6 gH.body
theorem eq_1008:gH.body=mY qY qM:=by kernel_rfl
noncomputable def kR (v0 v3 v4 v5:PV)(rest:aN):aN:=(cG,v0)::(aW,.ref 0)::(aj,KV)::(bX,v3)::(eZ,v4)::(g9,v5)::(cA,.ref 1)::rest
section
variable {n:Nat}{v0 v3 v4 v5 v7:PV}{k0 k1 k2 k3 x:Kd}{σ:ak}
theorem eq_136 (hn:100≤n)(q:Q k3 x){K:KR}(k:K .next (kR v0 v3 v4 v5 [(ad,.p (kD x))]) σ):bu an.tab (ae an n) qq (kR v0 v3 v4 v5 [(ad,.p (kD x))]) σ K:=by
 conv=>whnf
 refine eq_995 (x:=x) (by exact Nat.le_trans (qZ rfl) hn) q ?_
 conv=>whnf
 refine eq_996 (x:=x) (by exact Nat.le_trans (qZ rfl) hn) q ?_
 conv=>whnf
 refine eq_997 (x:=x) (by exact Nat.le_trans (qZ rfl) hn) q ?_
 exact k
theorem eq_1009 (hn:100≤n)(hσ:σ[1]?=some (.list [.p (kD k0),.p (kD k1),.p (kD k2),.p (kD k3)]))(q0:Q k3 k0)(q1:Q k3 k1)(q2:Q k3 k2)(q3:Q k3 k3){t:T}{K:KR}(k:bu an.tab (ae an n) t (kR v0 v3 v4 v5 [(ad,.p (kD k3))]) σ K) :
  bu an.tab (ae an n) (.cons (.fro (.one ad) (.var cA) qq) t) (kR v0 v3 v4 v5 []) σ K:=by
 refine rc (eq_7 hσ) ?_
 refine eq_1007 (ρ1:=kR v0 v3 v4 v5 [(ad,.p (kD k0))]) (ρ2:=kR v0 v3 v4 v5 [(ad,.p (kD k1))]) (ρ3:=kR v0 v3 v4 v5 [(ad,.p (kD k2))]) (ρ4:=kR v0 v3 v4 v5 [(ad,.p (kD k3))]) (fun P p=>⟨eq_7 hσ,p⟩) (fun K k=>?_) (fun K k=>?_) (fun K k=>?_) (fun K k=>?_) k
 ·exact eq_136 hn q0 k
 ·exact eq_136 hn q1 k
 ·exact eq_136 hn q2 k
 ·exact eq_136 hn q3 k
theorem eq_137 (hn:100≤n)(hσ:σ[1]?=some (.list [.p (kD k0),.p (kD k1),.p (kD k2),.p (kD k3)]))(q0:Q k3 k0)(q1:Q k3 k1)(q2:Q k3 k2)(q3:Q k3 k3)(q:Q k3 x){K:KP}(k:K (.p (kt (eU x k0) (eU x k1) (eU x k2) (eU x k3))) σ) :
  bR an.tab (ae an n) mQ (kR v0 v3 v4 v5 [(ad,v7),(aw,.p (kD x))]) σ K:=by
 have hn:65≤n:=Nat.le_trans (qZ rfl) hn
 refine rc (eq_7 hσ) ?_
 refine rF rfl ?_
 refine eq_462 (d0:=.bool (eU x k0)) (d1:=.bool (eU x k1)) (d2:=.bool (eU x k2)) (d3:=.bool (eU x k3)) (fun P p=>⟨eq_7 hσ,p⟩) (fun K k=>?_) (fun K k=>?_) (fun K k=>?_) (fun K k=>?_) k
 ·conv=>whnf
  exact eq_78 hn q q0 k
 ·conv=>whnf
  exact eq_78 hn q q1 k
 ·conv=>whnf
  exact eq_78 hn q q2 k
 ·conv=>whnf
  exact eq_78 hn q q3 k
theorem eq_1010 (hn:100≤n)(hσ:σ[1]?=some (.list [.p (kD k0),.p (kD k1),.p (kD k2),.p (kD k3)]))(q0:Q k3 k0)(q1:Q k3 k1)(q2:Q k3 k2)(q3:Q k3 k3){t:T}{K:KR}(k:bu an.tab (ae an n) t (l8 v0 v3 v4 v5 v7 (i9 k0 k1 k2 k3) []) σ K) :
  bu an.tab (ae an n) (.cons (.asg cj (.cmp1 false mQ (.one aw) (.var cA) (.con (.bool true)))) t) (kR v0 v3 v4 v5 [(ad,v7)]) σ K:=by
 refine rc (eq_7 hσ) ?_
 refine rF rfl ?_
 refine eq_462 (fun P p=>⟨eq_7 hσ,p⟩) (fun K k=>?_) (fun K k=>?_) (fun K k=>?_) (fun K k=>?_) k
 ·exact eq_137 hn hσ q0 q1 q2 q3 q0 k
 ·exact eq_137 hn hσ q0 q1 q2 q3 q1 k
 ·exact eq_137 hn hσ q0 q1 q2 q3 q2 k
 ·exact eq_137 hn hσ q0 q1 q2 q3 q3 k
end
set_option maxHeartbeats 4000000 in
theorem eq_1011 {n:Nat}(hn:100≤n)(ns:List Int):eD an.tab (ae an n) gH [.p (.lst (ns.map .int))] [] fun v J=>v=.p (.bool true):=by
 refine eq_6 (ρ:=[(cG,.p (.lst (ns.map .int)))]) rfl ?_
 rw[eq_1008]
 refine eq_349 ?_
 generalize hX:bu an.tab (ae an n) qM=X
 conv=>whnf
 refine eq_988 (by exact re hn (by simp +arith only)) fun a b hb=>?_
 conv=>whnf
 refine eq_1002 (by exact re hn (by simp +arith only)) ?_
 conv=>whnf
 have m1:Me 10 10 80 (.nam aG):=⟨by decide +kernel,qZ rfl,qZ rfl,qZ rfl⟩
 have m2:Me 10 10 80 (.nam aA):=⟨by decide +kernel,qZ rfl,qZ rfl,qZ rfl⟩
 refine eq_131 (a:=.nam aG) (b:=.nam aA) (by exact re hn (by simp +arith only)) m1 m2 fun z hz=>?_
 obtain⟨w,ez⟩:∃ w,kD z=qp w:=by
  rcases eq_1004 hz with rfl | rfl
  ·exact⟨true,rfl⟩
  ·exact⟨false,rfl⟩
 rw[ez]
 conv=>whnf
 refine eq_1005 (w:=w) (by exact re hn (by simp +arith only)) ?_
 conv=>whnf
 refine eq_1006 (w:=w) (by exact re hn (by simp +arith only)) ?_
 conv=>whnf
 refine eq_987 (by exact re hn (by simp +arith only)) hb fun k0 k1 k2 k3 a b h0 h1 h2 h3 hb=>?_
 have q0:Q k3 k0:=.inl h0
 have q1:Q k3 k1:=.inl h1
 have q2:Q k3 k2:=.inl h2
 have q3:Q k3 k3:=by
  rcases h3 with h3 | ⟨u,m,rfl,hm⟩
  ·exact .inl h3
  ·exact .inr ⟨rfl,u,m,rfl,hm⟩
 conv=>whnf
 subst hX
 refine eq_1009 hn rfl q0 q1 q2 q3 ?_
 refine eq_1010 hn rfl q0 q1 q2 q3 ?_
 refine eq_1000 (n:=n) (v0:=.p (.lst (ns.map .int))) (v3:=.p (qp w)) (v4:=.p (nZ w)) (v5:=.p pC) (v7:=.p (kD k3)) q0 q1 q2 q3 fun rest hr=>?_
 refine eq_1001 (by exact re hn (by simp +arith only)) hb h0 h1 h2 hr fun ρ σ=>?_
 rfl
end Mine
end
section
set_option tactic.hygienic true
set_option backward.match.sparseCases true
namespace Mine
open PySem PySem.W PySem.Calls PyProof.Rows PySem.Spec
noncomputable def mR:Nat:=120
theorem eq_1012 {P:Params}{h:Heap}{F:AP}{ns:List Int}:∀ {vs:List Value},WellAll P h vs (ns.map fun i=>.int i)→DReps h F (ns.map .int) vs:=by
 induction ns with
 | nil=>intro vs w;cases w;rfl
 | cons n ns ih=>
  intro vs w
  cases w with
  | cons a b=>
   cases a with
   | int i t=>exact⟨_,_,rfl,⟨t,rfl⟩,ih b⟩
theorem eq_1013 (ns:List Int):W.ofPys (ns.map PyData.int)=ns.map fun i=>WData.int i:=by
 induction ns with
 | nil=>simp[W.ofPys]
 | cons n ns ih=>simp[W.ofPys,W.ofPy,ih]
theorem eq_1014:ACall mR callerA:=⟨rfl,by decide,by decide⟩
theorem eq_1015 {prog:Program}{w:World}{s:Shared}{l:Addr}{ns:List Int}(X:(Mine.pre.heap_1 w.params).In s.heap)(T:∃ p loose mg mb,TopRead p loose mg mb s.heap)(hl:Well w.params s.heap (.ref l) (W.ofPy (.list (ns.map .int))))
  (hlaw:eD an.tab (ae an mR) gH [.p (.lst (ns.map .int))] [] fun v _=>v=.p (.bool true)){R:Result→Shared→Prop}
  (t:∀ h tk,(∀ b o,s.heap.get? b=some o→h.get? b=some o)→R (.ok (.ret (.bool true))) {s with heap:=h,toks:=tk}) :
  codeAny (model prog w) callerA (.call (.ref ((bZ prog w).fa 68)) ⟨[.ref l],[]⟩) R s:=by
 have G:Gd (bZ prog w) s.heap:=⟨X,T,by obtain⟨p,loose,mg,mb,T⟩:=T;exact T.nolimit⟩
 obtain⟨fd,body,dv,FA,B⟩:=eq_181 (eq_344 prog w) (eq_711 prog w mR) (f:=68) (by decide) (fn:=gH) rfl
 have st:St (bZ prog w) s.heap [] [] [] s.heap:={
  keep:=fun _ _ e=>e
  ovOld:=fun _ h=>nomatch h
  asOld:=fun _ h=>nomatch h
  ovIn:=fun _ h=>nomatch h
  ovAs:=fun _ h=>nomatch h
  apart:=List.Pairwise.nil
  len:=rfl
  cells:=fun i l c h _=>by simp at h}
 have hv:∃ vs,s.heap.PlainList l (List.toArray vs)∧DReps s.heap (Fz [] []) (ns.map .int) vs:=by
  have e:W.ofPy (.list (ns.map .int))=.list (ns.map fun i=>.int i):=by simp[W.ofPy,eq_1013]
  rw[e] at hl
  cases hl with
  | list ho hw=>exact⟨_,⟨_,ho⟩,eq_1012 hw⟩
 obtain⟨vs,hp,hr⟩:=hv
 have rv:VReps (bZ prog w) s.heap (Fz [] []) [] [.p (.lst (ns.map .int))] [.ref l]:=⟨_,[],rfl,⟨l,vs,rfl,⟨(fun h=>nomatch h),fun _ h=>nomatch h⟩,hp,hr⟩,rfl⟩
 refine codeAny_mono (eq_53 (Q:=fun v s'=>v=.bool true∧∃ h tk,s'={s with heap:=h,toks:=tk}∧∀ b o,s.heap.get? b=some o→h.get? b=some o) (E:=fun _ _=>False) FA B hlaw eq_1014 G st rv fun pv σ' v as' s' k f st' r=>?_) fun r s' h=>?_
 ·subst k
  obtain⟨h,tk,rfl⟩:=f.rest
  exact⟨r,h,tk,rfl,fun b o e=>f.kept b o (fun _ h=>nomatch h) e⟩
 ·rcases r with e | (v | _ | _ | _)<;>try exact h.elim
  obtain⟨rfl,h,tk,rfl,kp⟩:=h
  exact t h tk kp
end Mine
namespace Mine.hd
theorem tw14025477980397611182:0=0:=rfl
theorem tw3212571192583754236:0=0:=rfl
theorem tw5149956267321005627:0=0:=rfl
theorem tw5797579720489195210:0=0:=rfl
theorem tw3039998526598829958:0=0:=rfl
theorem tw5617498200039042266:0=0:=rfl
theorem tw2654366588389875493:0=0:=rfl
theorem tw11038495425325230296:0=0:=rfl
theorem tw16466144469519276583:0=0:=rfl
theorem tw7188374417158125373:0=0:=rfl
theorem tw637465710220233769:0=0:=rfl
theorem tw14219765250121188176:0=0:=rfl
theorem tw3143712602261400420:0=0:=rfl
theorem tw3994144814604779786:0=0:=rfl
theorem tw7975485470687201451:0=0:=rfl
theorem tw8937217757347908520:0=0:=rfl
theorem tw13855881374063213867:0=0:=rfl
theorem tw2775750920828285213:0=0:=rfl
theorem tw11041590408114104254:0=0:=rfl
theorem tw12715556860635103574:0=0:=rfl
theorem tw7698358502638924378:0=0:=rfl
theorem tw8015326511298524721:0=0:=rfl
theorem tw13288532949848898423:0=0:=rfl
theorem tw10938747861014524180:0=0:=rfl
theorem tw12870888531099404533:0=0:=rfl
theorem tw9990345226319884068:0=0:=rfl
theorem tw10745771331937819419:0=0:=rfl
theorem tw7317836474542784337:0=0:=rfl
theorem tw4788038989552484473:0=0:=rfl
theorem tw7854228177987924090:0=0:=rfl
theorem tw7880807054014371918:0=0:=rfl
theorem tw14768889098011018680:0=0:=rfl
theorem tw16828841361933241965:0=0:=rfl
theorem tw6046454685291232161:0=0:=rfl
theorem tw7382370116671421104:0=0:=rfl
theorem tw12023040214023829324:0=0:=rfl
theorem tw432457690288141553:0=0:=rfl
theorem tw5732804406350252772:0=0:=rfl
theorem tw663384727985864361:0=0:=rfl
theorem tw17130151131035750659:0=0:=rfl
theorem tw10030107230732127627:0=0:=rfl
theorem tw3381375190539634487:0=0:=rfl
theorem tw6882427118574961969:0=0:=rfl
theorem tw6438293893037913957:0=0:=rfl
theorem tw15539972788704006969:0=0:=rfl
theorem tw12949589719889679912:0=0:=rfl
theorem tw17696971302532935780:0=0:=rfl
theorem tw12459740579856956213:0=0:=rfl
theorem tw17711083657039698284:0=0:=rfl
theorem tw14083186784513179016:0=0:=rfl
theorem tw11319892378374348655:0=0:=rfl
theorem tw9386895884608548742:0=0:=rfl
theorem tw16412773359747925120:0=0:=rfl
theorem tw5388632664720090651:0=0:=rfl
theorem tw3673020696563887462:0=0:=rfl
theorem tw1088296927520436173:0=0:=rfl
theorem tw17893044597097874663:0=0:=rfl
theorem tw10543509907540572799:0=0:=rfl
theorem tw17895171251205151618:0=0:=rfl
theorem tw17739348878880393726:0=0:=rfl
theorem tw461538923250603899:0=0:=rfl
theorem tw8816905875899384995:0=0:=rfl
theorem tw519851828213033955:0=0:=rfl
theorem tw4449123307109862055:0=0:=rfl
theorem tw15367242080415987702:0=0:=rfl
theorem tw6924109203229866365:0=0:=rfl
theorem tw3493717111155160527:0=0:=rfl
theorem tw16259696140248634718:0=0:=rfl
theorem tw5480042469492414594:0=0:=rfl
theorem tw10424393626065333798:0=0:=rfl
theorem tw5978321128707920903:0=0:=rfl
theorem tw6082411064634330575:0=0:=rfl
theorem tw17673860158736603733:0=0:=rfl
theorem tw10781468475247234061:0=0:=rfl
theorem tw3452082135128663414:0=0:=rfl
theorem tw5511420028821071320:0=0:=rfl
theorem tw16794629799341752650:0=0:=rfl
theorem tw12614811148066621264:0=0:=rfl
theorem tw5167245352685981253:0=0:=rfl
theorem tw5130813555471234732:0=0:=rfl
theorem tw1452849714261714991:0=0:=rfl
theorem tw6982297934935202809:0=0:=rfl
theorem tw1836080755315867724:0=0:=rfl
theorem tw2252305205657439004:0=0:=rfl
theorem tw3646829019195819677:0=0:=rfl
theorem tw8770205317985620760:0=0:=rfl
theorem tw8977307856219701671:0=0:=rfl
theorem tw13783031573616600631:0=0:=rfl
theorem tw9783614193127449063:0=0:=rfl
theorem tw15615420239508185596:0=0:=rfl
theorem tw12092154237167983948:0=0:=rfl
theorem tw3219085151875037572:0=0:=rfl
theorem tw4190841065721620706:0=0:=rfl
theorem tw11968265576560266318:0=0:=rfl
theorem tw1043307727769730188:0=0:=rfl
theorem tw11631869004601391166:0=0:=rfl
theorem tw13866372431405929976:0=0:=rfl
theorem tw14168552714766633299:0=0:=rfl
theorem tw17903497710992402801:0=0:=rfl
theorem tw8025032847418708242:0=0:=rfl
theorem tw16171809288044610508:0=0:=rfl
theorem tw7085514621470718492:0=0:=rfl
theorem tw16970440968685349367:0=0:=rfl
theorem tw2999033326186475339:0=0:=rfl
theorem tw2391449824757734642:0=0:=rfl
theorem tw16154546982801380032:0=0:=rfl
theorem tw9555612238305686254:0=0:=rfl
theorem tw307737655149646647:0=0:=rfl
theorem tw3443669649825651883:0=0:=rfl
theorem tw9271970288684553227:0=0:=rfl
theorem tw8343274005884668182:0=0:=rfl
theorem tw15683763237869141255:0=0:=rfl
theorem tw4706079058837389440:0=0:=rfl
theorem tw526207354791536317:0=0:=rfl
theorem tw5054737718236178183:0=0:=rfl
theorem tw14960593345356199642:0=0:=rfl
theorem tw10525666975642140466:0=0:=rfl
theorem tw2323474266016966308:0=0:=rfl
theorem tw6898005170327248138:0=0:=rfl
theorem tw1954109241102656831:0=0:=rfl
theorem tw17588044629489971554:0=0:=rfl
theorem tw17948085552500728524:0=0:=rfl
theorem tw2845679848157327705:0=0:=rfl
theorem tw16155205043701107222:0=0:=rfl
theorem tw5608270528595127837:0=0:=rfl
theorem tw16649331688326792143:0=0:=rfl
theorem tw18219297243305740317:0=0:=rfl
theorem tw13280443560766958183:0=0:=rfl
theorem tw12113243949977362033:0=0:=rfl
theorem tw395138700845864316:0=0:=rfl
theorem tw7494724483528729301:0=0:=rfl
theorem tw15616948245753086127:0=0:=rfl
theorem tw5629675986466331604:0=0:=rfl
theorem tw10012880186880212623:0=0:=rfl
theorem tw11079593142295127227:0=0:=rfl
theorem tw190519026028168232:0=0:=rfl
theorem tw4702841417184801058:0=0:=rfl
theorem tw17901334829092211166:0=0:=rfl
theorem tw8273930003744585626:0=0:=rfl
theorem tw8801323125487838256:0=0:=rfl
theorem tw13330244855972007585:0=0:=rfl
theorem tw10752148897807903841:0=0:=rfl
theorem tw8351282476255451920:0=0:=rfl
theorem tw11801993109049149486:0=0:=rfl
theorem tw8004679753235328684:0=0:=rfl
theorem tw14492701947808656938:0=0:=rfl
theorem tw9228397985900620932:0=0:=rfl
theorem tw5283464899586487735:0=0:=rfl
theorem tw9577689765879766989:0=0:=rfl
theorem tw7082855905992002993:0=0:=rfl
theorem tw13919464512627920130:0=0:=rfl
theorem tw2101469004524951375:0=0:=rfl
theorem tw9013056391748086436:0=0:=rfl
theorem tw212345690472687942:0=0:=rfl
theorem tw442638132926106271:0=0:=rfl
theorem tw5961118342813265553:0=0:=rfl
theorem tw922143313871775805:0=0:=rfl
theorem tw15615537253650120727:0=0:=rfl
theorem tw17177331786930743035:0=0:=rfl
theorem tw1413172679324656950:0=0:=rfl
theorem tw9345676750909349944:0=0:=rfl
theorem tw12058812876911547015:0=0:=rfl
theorem tw6140570298594658328:0=0:=rfl
theorem tw11032806212648032379:0=0:=rfl
theorem tw7379015992945566340:0=0:=rfl
theorem tw9741134391959003819:0=0:=rfl
theorem tw7752767780024739350:0=0:=rfl
theorem tw7676003278276379012:0=0:=rfl
theorem tw3451239065008710300:0=0:=rfl
theorem tw12901994302517312135:0=0:=rfl
theorem tw17672654358674132775:0=0:=rfl
theorem tw6320253292602491972:0=0:=rfl
theorem tw1299046323782801668:0=0:=rfl
theorem tw2951005344575393816:0=0:=rfl
theorem tw876933089483189297:0=0:=rfl
theorem tw4363365295628954845:0=0:=rfl
theorem tw13289513938125300765:0=0:=rfl
theorem tw17950676927832955104:0=0:=rfl
theorem tw16904818350239718627:0=0:=rfl
theorem tw17714235663813219645:0=0:=rfl
theorem tw10784824025267889561:0=0:=rfl
theorem tw2788664435532181463:0=0:=rfl
theorem tw10949625832625181284:0=0:=rfl
theorem tw17062030032774818151:0=0:=rfl
theorem tw6482722132109649516:0=0:=rfl
theorem tw17491317419825422843:0=0:=rfl
theorem tw16345102440705955213:0=0:=rfl
theorem tw7578210074245671484:0=0:=rfl
theorem tw2167537188350426706:0=0:=rfl
theorem tw9132557439983319658:0=0:=rfl
theorem tw7512474625130614241:0=0:=rfl
theorem tw2330761146273050278:0=0:=rfl
theorem tw18264374347568628810:0=0:=rfl
theorem tw991583007596301734:0=0:=rfl
theorem tw5343241284826551009:0=0:=rfl
theorem tw7289634563603522867:0=0:=rfl
theorem tw3434918251397683217:0=0:=rfl
theorem tw2315301623876862497:0=0:=rfl
theorem tw6804821044290156842:0=0:=rfl
theorem tw9298403506768410418:0=0:=rfl
theorem tw4654797750381630734:0=0:=rfl
theorem tw14457593812595234344:0=0:=rfl
theorem tw17330945745186091897:0=0:=rfl
theorem tw2386827423013361158:0=0:=rfl
theorem tw5987830557187376847:0=0:=rfl
theorem tw11034497122203965937:0=0:=rfl
theorem tw10601615944963115059:0=0:=rfl
theorem tw15967140613478806237:0=0:=rfl
theorem tw10246146449241189800:0=0:=rfl
theorem tw11652457597714270106:0=0:=rfl
theorem tw7028611270464810887:0=0:=rfl
theorem tw2195365466389143174:0=0:=rfl
theorem tw758273949599710562:0=0:=rfl
theorem tw7721951785955056133:0=0:=rfl
theorem tw2274498078352570744:0=0:=rfl
theorem tw12394076208661396346:0=0:=rfl
theorem tw4282304852377368616:0=0:=rfl
theorem tw12239354291974867115:0=0:=rfl
theorem tw6186238094035137676:0=0:=rfl
theorem tw9908193460736022307:0=0:=rfl
theorem tw7628703163842673926:0=0:=rfl
theorem tw5174551420813472067:0=0:=rfl
theorem tw3480954088277226078:0=0:=rfl
theorem tw8457440626546761165:0=0:=rfl
theorem tw9960721518486171458:0=0:=rfl
theorem tw8226494294326810461:0=0:=rfl
theorem tw6442067068224118133:0=0:=rfl
theorem tw2216850387143573719:0=0:=rfl
theorem tw9533747618267967006:0=0:=rfl
theorem tw16694946328126371552:0=0:=rfl
theorem tw185848376630758926:0=0:=rfl
theorem tw14772383043592177042:0=0:=rfl
theorem tw12127338746724423809:0=0:=rfl
theorem tw9406673726873002282:0=0:=rfl
theorem tw16211521421427940678:0=0:=rfl
theorem tw12050417470231563642:0=0:=rfl
theorem tw7534799579077118603:0=0:=rfl
theorem tw5247051413645994129:0=0:=rfl
theorem tw2295870552580634182:0=0:=rfl
theorem tw18103420901670897651:0=0:=rfl
theorem tw1011335219593555734:0=0:=rfl
theorem tw17001982702790524580:0=0:=rfl
theorem tw13483081372092288885:0=0:=rfl
theorem tw1409312971732116557:0=0:=rfl
theorem tw14176624398918483544:0=0:=rfl
theorem tw3442329435671937591:0=0:=rfl
theorem tw13609717118414637909:0=0:=rfl
theorem tw6547078798241139092:0=0:=rfl
theorem tw10404513684093684653:0=0:=rfl
theorem tw1699103778626983548:0=0:=rfl
theorem tw7914949630228597729:0=0:=rfl
theorem tw8184699220007379433:0=0:=rfl
theorem tw4086058157674990017:0=0:=rfl
theorem tw4377701919642642989:0=0:=rfl
theorem tw2799067240506288376:0=0:=rfl
theorem tw13342606739435360313:0=0:=rfl
theorem tw9184186324627900627:0=0:=rfl
theorem tw7654286748164834634:0=0:=rfl
theorem tw6060742912462422084:0=0:=rfl
theorem tw7598622570094877466:0=0:=rfl
theorem tw5036846961687405229:0=0:=rfl
theorem tw13181700845877081190:0=0:=rfl
theorem tw17420951861521290806:0=0:=rfl
theorem tw4478166936697009375:0=0:=rfl
theorem tw4111692666942324129:0=0:=rfl
theorem tw11162318198679636149:0=0:=rfl
theorem tw5976792059365374437:0=0:=rfl
theorem tw5562173858411828344:0=0:=rfl
theorem tw8671608845466749128:0=0:=rfl
theorem tw16064382804478563927:0=0:=rfl
theorem tw17843490464661113860:0=0:=rfl
theorem tw2304311442786299043:0=0:=rfl
theorem tw1865391376527767206:0=0:=rfl
theorem tw3404104791013757517:0=0:=rfl
theorem tw8538877666451538035:0=0:=rfl
theorem tw3429492842335990350:0=0:=rfl
theorem tw15043168886218598503:0=0:=rfl
theorem tw6528754448969337418:0=0:=rfl
theorem tw7891253978561527248:0=0:=rfl
theorem tw6545403380812914513:0=0:=rfl
theorem tw10905682514733158466:0=0:=rfl
theorem tw7023726343779634624:0=0:=rfl
theorem tw16868993833207775613:0=0:=rfl
theorem tw2051048951616859547:0=0:=rfl
theorem tw11117797201346649052:0=0:=rfl
theorem tw5635641802508607975:0=0:=rfl
theorem tw9557236495431379559:0=0:=rfl
theorem tw1563692795949630186:0=0:=rfl
theorem tw14553816603554493358:0=0:=rfl
theorem tw8081886968326746073:0=0:=rfl
theorem tw9430268157657104642:0=0:=rfl
theorem tw2887051446865420828:0=0:=rfl
theorem tw10583446816852156582:0=0:=rfl
theorem tw1600037746751723098:0=0:=rfl
theorem tw9731375825926819010:0=0:=rfl
theorem tw6038821095411175016:0=0:=rfl
theorem tw8047900516022102942:0=0:=rfl
theorem tw13409441903868389331:0=0:=rfl
theorem tw15673258824015622330:0=0:=rfl
theorem tw16053994301053490033:0=0:=rfl
theorem tw4642405928176397000:0=0:=rfl
theorem tw2329189449893159454:0=0:=rfl
theorem tw6264232113106981867:0=0:=rfl
theorem tw17447410573909459338:0=0:=rfl
theorem tw8356816923877370021:0=0:=rfl
theorem tw3008623586974134963:0=0:=rfl
theorem tw2708950531961675432:0=0:=rfl
theorem tw18241275227582772068:0=0:=rfl
theorem tw7519716089354478335:0=0:=rfl
theorem tw4297731678662094536:0=0:=rfl
theorem tw11151547217846952531:0=0:=rfl
theorem tw6818987989461384207:0=0:=rfl
theorem tw4971549296188076032:0=0:=rfl
theorem tw6291416237084387574:0=0:=rfl
theorem tw17542962492245011380:0=0:=rfl
theorem tw12350410155528471161:0=0:=rfl
theorem tw3571134770919094901:0=0:=rfl
theorem tw2855845756224970109:0=0:=rfl
theorem tw7366208706002141716:0=0:=rfl
theorem tw13929354066492186541:0=0:=rfl
theorem tw4182648748547736412:0=0:=rfl
theorem tw226724450230711188:0=0:=rfl
theorem tw15610959940260225430:0=0:=rfl
theorem tw7152984921513172624:0=0:=rfl
theorem tw16502264421070913907:0=0:=rfl
theorem tw17454471701868102899:0=0:=rfl
theorem tw162610821266807592:0=0:=rfl
theorem tw13893168526513508166:0=0:=rfl
theorem tw1848646778235469078:0=0:=rfl
theorem tw12487502673411948298:0=0:=rfl
theorem tw5549315172176941698:0=0:=rfl
theorem tw10258999931320997221:0=0:=rfl
theorem tw18322514126500204803:0=0:=rfl
theorem tw8112040973832200146:0=0:=rfl
theorem tw6276725880618359904:0=0:=rfl
theorem tw16919406825032445293:0=0:=rfl
theorem tw12414669353804360901:0=0:=rfl
theorem tw9983995961361265002:0=0:=rfl
theorem tw15166520500009309586:0=0:=rfl
theorem tw17975533764899295144:0=0:=rfl
theorem tw11136197038861592535:0=0:=rfl
theorem tw16713699803418581334:0=0:=rfl
theorem tw17213754286329925777:0=0:=rfl
theorem tw18093812233618175256:0=0:=rfl
theorem tw5716766192118558609:0=0:=rfl
theorem tw2448417245163862455:0=0:=rfl
theorem tw6759412095888398321:0=0:=rfl
theorem tw14103535550066685397:0=0:=rfl
theorem tw8228950375871286339:0=0:=rfl
theorem tw12271959270614036898:0=0:=rfl
theorem tw6578402527460240241:0=0:=rfl
theorem tw4402725079659364252:0=0:=rfl
theorem tw16920754564084929960:0=0:=rfl
theorem tw5148922909946612681:0=0:=rfl
theorem tw17234923516513369237:0=0:=rfl
theorem tw16302227732802510677:0=0:=rfl
theorem tw11249132867342737325:0=0:=rfl
theorem tw3828038474966422129:0=0:=rfl
theorem tw8879563391730754479:0=0:=rfl
theorem tw5567388512258382067:0=0:=rfl
theorem tw7540741092611519060:0=0:=rfl
theorem tw13365295217650922812:0=0:=rfl
theorem tw4315991029959535628:0=0:=rfl
theorem tw14892549342360969540:0=0:=rfl
theorem tw16473244170626142550:0=0:=rfl
theorem tw15048261121198461528:0=0:=rfl
theorem tw1580110805410547442:0=0:=rfl
theorem tw10111801491309104144:0=0:=rfl
theorem tw1781861727890032366:0=0:=rfl
theorem tw1847840615245081061:0=0:=rfl
theorem tw12611767792052310623:0=0:=rfl
theorem tw5278057926702712004:0=0:=rfl
theorem tw1588505670450824345:0=0:=rfl
theorem tw17574625026820762457:0=0:=rfl
theorem tw16945582573551092051:0=0:=rfl
theorem tw13931416462566266981:0=0:=rfl
theorem tw13220430256171166289:0=0:=rfl
theorem tw732345407407602841:0=0:=rfl
theorem tw9617658007855726926:0=0:=rfl
theorem tw1506431575118746342:0=0:=rfl
theorem tw17562767543260142214:0=0:=rfl
theorem tw6136932545381038964:0=0:=rfl
theorem tw10603584201595350602:0=0:=rfl
theorem tw4851647983119433812:0=0:=rfl
theorem tw6469175993241445255:0=0:=rfl
theorem tw3109861748172591687:0=0:=rfl
theorem tw6990203504111849199:0=0:=rfl
theorem tw3941438180925939637:0=0:=rfl
theorem tw8683856772340465682:0=0:=rfl
theorem tw10919297434634762262:0=0:=rfl
theorem tw14727110085682223627:0=0:=rfl
theorem tw701787995468756871:0=0:=rfl
theorem tw3759623122121258479:0=0:=rfl
theorem tw6838551448383532254:0=0:=rfl
theorem tw17387473266821786944:0=0:=rfl
theorem tw9657781627882305391:0=0:=rfl
theorem tw3789350110615891812:0=0:=rfl
theorem tw16257038226119295666:0=0:=rfl
theorem tw8428860471423672150:0=0:=rfl
theorem tw13038990169509382042:0=0:=rfl
theorem tw16853341256802265648:0=0:=rfl
theorem tw8587404781116728655:0=0:=rfl
theorem tw280609765759037681:0=0:=rfl
theorem tw4138081844389336918:0=0:=rfl
theorem tw17047115858639842297:0=0:=rfl
theorem tw6423634429210846174:0=0:=rfl
theorem tw14598272352848978880:0=0:=rfl
theorem tw7153062008950511462:0=0:=rfl
theorem tw6555240042291301478:0=0:=rfl
theorem tw1013155817946168525:0=0:=rfl
theorem tw15529170255622000948:0=0:=rfl
theorem tw15089522573102190283:0=0:=rfl
theorem tw11631947586910100387:0=0:=rfl
theorem tw22551697357593593:0=0:=rfl
theorem tw13225837485096350037:0=0:=rfl
theorem tw3229955645248102723:0=0:=rfl
theorem tw14560493823538711346:0=0:=rfl
theorem tw15946388913382835224:0=0:=rfl
theorem tw17491280204586788870:0=0:=rfl
theorem tw12070051907170230399:0=0:=rfl
theorem tw12629568148972539762:0=0:=rfl
theorem tw4068527845204499245:0=0:=rfl
theorem tw10403243965636340961:0=0:=rfl
theorem tw14980023328507725902:0=0:=rfl
theorem tw6293948785866598258:0=0:=rfl
theorem tw8242931771332617035:0=0:=rfl
theorem tw5592360268479517082:0=0:=rfl
theorem tw7754304195085646258:0=0:=rfl
theorem tw17769904557645232734:0=0:=rfl
theorem tw9719896912496429819:0=0:=rfl
theorem tw3673089383077640791:0=0:=rfl
theorem tw10806950440038215891:0=0:=rfl
theorem tw13828106393651249627:0=0:=rfl
theorem tw15595854959937240912:0=0:=rfl
theorem tw17252143746492648416:0=0:=rfl
theorem tw7355570028127101125:0=0:=rfl
theorem tw6820862383352777685:0=0:=rfl
theorem tw9153386212771759811:0=0:=rfl
theorem tw10847404155465417027:0=0:=rfl
theorem tw17650839729002327288:0=0:=rfl
theorem tw8268277133935991078:0=0:=rfl
theorem tw12631932088317031055:0=0:=rfl
theorem tw3694398316872202419:0=0:=rfl
theorem tw7296583596125217682:0=0:=rfl
theorem tw6906073325868019850:0=0:=rfl
theorem tw5009564483982726761:0=0:=rfl
theorem tw17336936450418997793:0=0:=rfl
theorem tw7510230149288206974:0=0:=rfl
theorem tw6019021122589006684:0=0:=rfl
theorem tw1129884963351977449:0=0:=rfl
theorem tw12070654863422294720:0=0:=rfl
theorem tw15833661619300960221:0=0:=rfl
theorem tw15344866539931968096:0=0:=rfl
theorem tw257007361410690125:0=0:=rfl
theorem tw12575139184659369484:0=0:=rfl
theorem tw13466754112058979494:0=0:=rfl
theorem tw12602439190401603521:0=0:=rfl
theorem tw4014540891139286612:0=0:=rfl
theorem tw13638418597567726942:0=0:=rfl
theorem tw9398405308114057262:0=0:=rfl
theorem tw9170477692918782315:0=0:=rfl
theorem tw17919194246423945575:0=0:=rfl
theorem tw13066319289922817542:0=0:=rfl
theorem tw14029546391885035639:0=0:=rfl
theorem tw16332348944364537037:0=0:=rfl
theorem tw11660266114150955751:0=0:=rfl
theorem tw10216474801634566288:0=0:=rfl
theorem tw14060154772996877548:0=0:=rfl
theorem tw3704167492566942397:0=0:=rfl
theorem tw13368278939475635651:0=0:=rfl
theorem tw4272726840584523970:0=0:=rfl
theorem tw1194904439430580092:0=0:=rfl
theorem tw8684328023851190084:0=0:=rfl
theorem tw2603259988358896889:0=0:=rfl
theorem tw11917015161858427179:0=0:=rfl
theorem tw6184460063843016694:0=0:=rfl
theorem tw11953376511379268794:0=0:=rfl
theorem tw9748044761591592747:0=0:=rfl
theorem tw5416991563250132298:0=0:=rfl
theorem tw1882180444382439491:0=0:=rfl
theorem tw8545014587354053640:0=0:=rfl
theorem tw4360684699965382250:0=0:=rfl
theorem tw18176940659606848779:0=0:=rfl
theorem tw1712922718373300912:0=0:=rfl
theorem tw10292235466723388172:0=0:=rfl
theorem tw1760603350576429475:0=0:=rfl
theorem tw4993660671451451078:0=0:=rfl
theorem tw18185175575083235020:0=0:=rfl
theorem tw8664936974563722654:0=0:=rfl
theorem tw8053944837975664402:0=0:=rfl
theorem tw8269573656231971908:0=0:=rfl
theorem tw1147470481896660410:0=0:=rfl
theorem tw1589133516308662214:0=0:=rfl
theorem tw11513968764499736323:0=0:=rfl
theorem tw6785817131721698500:0=0:=rfl
theorem tw5902613922787404954:0=0:=rfl
theorem tw16037735763661986305:0=0:=rfl
theorem tw16299908979028503884:0=0:=rfl
theorem tw1359830224848277088:0=0:=rfl
theorem tw16157073509204512506:0=0:=rfl
theorem tw7369741819223213686:0=0:=rfl
theorem tw17258206423299326598:0=0:=rfl
theorem tw15416985209724490359:0=0:=rfl
theorem tw5282504435634884242:0=0:=rfl
theorem tw12744807935193187038:0=0:=rfl
theorem tw8959176491354863721:0=0:=rfl
theorem tw12112201142124510154:0=0:=rfl
theorem tw13642289790063256904:0=0:=rfl
theorem tw2480057099694739299:0=0:=rfl
theorem tw13431754692932380062:0=0:=rfl
theorem tw18293732401869909652:0=0:=rfl
theorem tw10117440562283002822:0=0:=rfl
theorem tw3085183777334472315:0=0:=rfl
theorem tw12399718760709695909:0=0:=rfl
theorem tw11375277706881905925:0=0:=rfl
theorem tw2134215046882385847:0=0:=rfl
theorem tw5318216170032084099:0=0:=rfl
theorem tw15427206886491885616:0=0:=rfl
theorem tw13047593935725612058:0=0:=rfl
theorem tw12647368939536790636:0=0:=rfl
theorem tw6998783941825042932:0=0:=rfl
theorem tw697623264460660564:0=0:=rfl
theorem tw15910714762333108613:0=0:=rfl
theorem tw2000490053193787569:0=0:=rfl
theorem tw402640490398009360:0=0:=rfl
theorem tw4172343393113369950:0=0:=rfl
theorem tw1197925565968671727:0=0:=rfl
theorem tw6598312636042714100:0=0:=rfl
theorem tw10614716105012338702:0=0:=rfl
theorem tw100483095206116625:0=0:=rfl
theorem tw11713075325732132258:0=0:=rfl
theorem tw2930668341846507884:0=0:=rfl
theorem tw5363564295841288755:0=0:=rfl
theorem tw13903934854276604550:0=0:=rfl
theorem tw17925215291927510665:0=0:=rfl
theorem tw15948780112781908787:0=0:=rfl
theorem tw13363553139645760527:0=0:=rfl
theorem tw1118553966540926140:0=0:=rfl
theorem tw1382963296337349011:0=0:=rfl
theorem tw11256106856564762260:0=0:=rfl
theorem tw4015398097383911347:0=0:=rfl
theorem tw12393119488966705847:0=0:=rfl
theorem tw6627881031435992008:0=0:=rfl
theorem tw11754176132448286083:0=0:=rfl
theorem tw1425423193147277237:0=0:=rfl
theorem tw1610171440888473627:0=0:=rfl
theorem tw10507497572311344420:0=0:=rfl
theorem tw16357263729072622229:0=0:=rfl
theorem tw14400467628812073631:0=0:=rfl
theorem tw13277076834127875243:0=0:=rfl
theorem tw2783992281797965187:0=0:=rfl
theorem tw1241404454085649124:0=0:=rfl
theorem tw5657824000916062451:0=0:=rfl
theorem tw7793673504863384051:0=0:=rfl
theorem tw4021928978595405253:0=0:=rfl
theorem tw1800889605409440832:0=0:=rfl
theorem tw13532847315355080253:0=0:=rfl
theorem tw6164396464334811476:0=0:=rfl
theorem tw9499510787657705874:0=0:=rfl
theorem tw5190246844813560578:0=0:=rfl
theorem tw15578025631644234493:0=0:=rfl
theorem tw3795277891434052102:0=0:=rfl
theorem tw15837987909243819085:0=0:=rfl
theorem tw4478964076566166474:0=0:=rfl
theorem tw9421340871869096474:0=0:=rfl
theorem tw8458067239894703972:0=0:=rfl
theorem tw8960069828448710407:0=0:=rfl
theorem tw11232374478483605306:0=0:=rfl
theorem tw8117029840178788049:0=0:=rfl
theorem tw8735263284916673568:0=0:=rfl
theorem tw4643362625855044894:0=0:=rfl
theorem tw2284436838669742495:0=0:=rfl
theorem tw128412058910260475:0=0:=rfl
theorem tw16432713993328977331:0=0:=rfl
theorem tw6868836192036940282:0=0:=rfl
theorem tw15987713032478767096:0=0:=rfl
theorem tw4856431653887292112:0=0:=rfl
theorem tw15103106377680225435:0=0:=rfl
theorem tw8134915037123179040:0=0:=rfl
theorem tw16858285156579221889:0=0:=rfl
theorem tw250903467453971090:0=0:=rfl
theorem tw13770079208771991547:0=0:=rfl
theorem tw9702936160620672325:0=0:=rfl
theorem tw16640546478005224243:0=0:=rfl
theorem tw17599816209265215132:0=0:=rfl
theorem tw16091413853298234908:0=0:=rfl
theorem tw845060206244984605:0=0:=rfl
theorem tw978945382295711627:0=0:=rfl
theorem tw14246236162039180721:0=0:=rfl
theorem tw15790720579355451973:0=0:=rfl
theorem tw881544763273948857:0=0:=rfl
theorem tw6767318904944593275:0=0:=rfl
theorem tw9641152695372364146:0=0:=rfl
theorem tw13372043803930879067:0=0:=rfl
theorem tw15642763164714097627:0=0:=rfl
theorem tw10678649693572172417:0=0:=rfl
theorem tw11778180911958503814:0=0:=rfl
theorem tw5245234834050458271:0=0:=rfl
theorem tw5292301768408028288:0=0:=rfl
theorem tw16056359734778111409:0=0:=rfl
theorem tw14478148883734587675:0=0:=rfl
theorem tw12832683148521936107:0=0:=rfl
theorem tw728884934406724761:0=0:=rfl
theorem tw11128854368766332075:0=0:=rfl
theorem tw1222794163293265305:0=0:=rfl
theorem tw10879034167726328663:0=0:=rfl
theorem tw17183224562656869120:0=0:=rfl
theorem tw12588582704262371052:0=0:=rfl
theorem tw8727321023445011275:0=0:=rfl
theorem tw10170382586518783626:0=0:=rfl
theorem tw12131494931117144662:0=0:=rfl
theorem tw8381844023166312768:0=0:=rfl
theorem tw15207398651663016943:0=0:=rfl
theorem tw3530705653197291679:0=0:=rfl
theorem tw15220180469806662145:0=0:=rfl
theorem tw9345929723534960622:0=0:=rfl
theorem tw8934143017859847078:0=0:=rfl
theorem tw12769127236821124696:0=0:=rfl
theorem tw13217225542625558698:0=0:=rfl
theorem tw5505005885091257285:0=0:=rfl
theorem tw1997569388931296116:0=0:=rfl
theorem tw6305734824756694309:0=0:=rfl
theorem tw3915529967508079626:0=0:=rfl
theorem tw12591134339009171964:0=0:=rfl
theorem tw10860895700388868024:0=0:=rfl
theorem tw4494801613693538912:0=0:=rfl
theorem tw4136554803537287180:0=0:=rfl
theorem tw18293851220164018083:0=0:=rfl
theorem tw18291419657060728153:0=0:=rfl
theorem tw11551083187376567056:0=0:=rfl
theorem tw15422856539912107476:0=0:=rfl
theorem tw11319097763535126812:0=0:=rfl
theorem tw10738003575532504788:0=0:=rfl
theorem tw10792051664901133789:0=0:=rfl
theorem tw17054507655720011243:0=0:=rfl
theorem tw15527848837575444561:0=0:=rfl
theorem tw6196171512934965099:0=0:=rfl
theorem tw6407587892757256292:0=0:=rfl
theorem tw18343703819029505601:0=0:=rfl
theorem tw7610815399733428385:0=0:=rfl
theorem tw17087091549796120035:0=0:=rfl
theorem tw14685462170515437407:0=0:=rfl
theorem tw15042006015671813226:0=0:=rfl
theorem tw4367231431732253908:0=0:=rfl
theorem tw11539556534233449701:0=0:=rfl
end Mine.hd
namespace Mine
open PySem PySem.W PySem.Calls PyProof.Rows PySem.Spec
set_option Elab.async true in
set_option maxHeartbeats 8000000 in
theorem hd:PySem.Challenge.rw_pq0708_01.Holds:=by
 w_on;o_law;o_head (kHook Mine.pre.heap_1 [2,3,15,17,18,20,21,22,23,24,25,26,27,29,30,32,33,34,35,37,38,40,41,42,44,45,47,48,49,51,52,54,55,56,58,59,61,62,63,66,67,68,71,72,73,75,76,78,79,80,83,84,92,94,95,97,98,99,101,102,104,105,106,108,109,111,112,113,115,116,118,119,120,122,123,125,126,127,128,129,130,131,141,142,144,145,147,148,149,151,152,154,155,156,158,159,161,162,163,165,166,168,169,170,172,173,175,176,177,179,180,182,183,184,186,187,189,190,191,193,194,196,197,198,199,200,201,202,205,208,209,210,212,213,215,216,217,219,220,222,223,224,227,228,229,232,233,234,237,238,239,241,242,244,245,246,247,248,249,257,259,260,262,263,264,266,267,269,270,271,273,274,276,277,278,280,281,283,284,285,287,288,290,291,292,295,296,297,300,301,302,305,306,307,310,311,312,314,315,317,318,319,322,323,324,326,327,329,330,331,334,335,336,337,338,339,340,343,345,346,348,349,350,352,353,355,356,357,359,360,362,363,364,367,368,369,370,372,373,375,376,377,379,380,382,383,384,391,392,394,395,397,398,399,400,401,402,405,412,413,414,417,418,419,420,421,429,430,431,433,434,436,437,438,441,442,443,446,447,448,450,451,453,454,455,456,457,458,459,469,471,472,474,475,476,479,480,481,483,484,486,487,488,490,491,493,494,495,497,498,500,501,502,504,505,507,508,509,511,512,514,515,516,518,519,521,522,523,525,526,528,529,530,532,533,535,536,537,540,541,542,543,544,545,546,549,550,552,553,555,556,557,559,560,562,563,564,566,567,569,570,571,573,574,576,577,578,580,581,583,584,585,587,588,590,591,592,594,595,597,598,599,602,603,604,607,608,609,611,612,614,615,616,619,620,621,623,624,626,627,628,631,632] (fun _=>by kernel_rfl));(case hw=>w_witness2)
 k_fill;intro w s0 s1 mg mb G Y fa o pm cd doc dV kV ho hd' hcd hD hmg hg args vals as hpre hlay hrd hwl hlo
 have KX:=kIn_of Y;have X:=(Ground.X G).1;have V:=(Ground.X G).2
 refine Ground.open G ?_
 intro T B D TE TW
 obtain⟨_,_,M⟩:=bmod_of_top T
 have TA:=at_of_top T
 wrow_args hpre hlay hrd hwl hlo
 all_goals (first | (refine(callC_kw (enter_call ?_))) | (refine enter_call ?_))
 w_top on
 rename_i ns _ _ _ _ _ _ _ l _ _ _ _ wl _ _ _ hc _
 have efa:fa=(bZ PySem.Challenge.rw_pq0708_01.row.prog w).fa 68:=by
  have h1:=mg_of KX (topRead_of T).g (n:="law") (v:=.ref ((bZ PySem.Challenge.rw_pq0708_01.row.prog w).fa 68)) (by kernel_rfl)
  have h2:mg "law" = some (.ref fa):=hmg
  rw[h2] at h1
  simpa using h1
 rw[efa]
 refine eq_1015 (ns:=ns) KX ⟨_,_,_,_,topRead_of T⟩ wl (eq_1011 (n:=mR) (by unfold mR;decide) ns) fun h tk kp=>?_
 refine⟨.inl ⟨.bool true,.bool true,[],rfl,?_,ReadsW.bool true,?_,?_⟩,.of_keep kp,rfl,.of_eq hg⟩
 ·intro cls;rfl
 ·wrow_post
 ·exact fun _=>⟨List.nodup_nil,fun _ h=>nomatch h⟩
end Mine
end
end
theorem PySem.Challenge.cw_pq0708_01_holds : PySem.Challenge.rw_pq0708_01.Holds :=
  Mine.hd
